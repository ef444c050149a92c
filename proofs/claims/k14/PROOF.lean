import PyProof.Rows.All
import Wide.All
import OpenK.AllK
import Wide.FinOn
import HandS.ForMost
import HandS.Wide
import HandS.Deep
import HandS.IsInst
import HandS.TupAny
import HandS.TupLe
import HandS.SortInts
import HandS.TupMul
import HandS.Style
import HandS.Conv
import KE.SortData
import KE.DataMinMax
import KE.DatumOrd
import PyProof.Rows.RowBridgeK
import PyProof.Rows.SeqMore
import PyProof.LongRange
import PySem.Challenge.RW_boatsout_k14_water_by_hours
set_option Elab.async false
set_option linter.all false
set_option maxRecDepth 100000
/-! VL1: values, how they lie in the heap, the state, judgements. -/
namespace VL
open PySem PySem.Spec PyProof.Rows L2

inductive Val where
  | non | bl (b : Bool) | int (i : Int) | str (x : Str) | tup (xs : List Val) | lst (xs : List Val) | dic (kvs : List (Val × Val))

abbrev ZS := Addr → Prop
abbrev DK := Key ⊕ List Key

def KT (K : PySem.W.Frag) (a : Addr) (ws : List V) : Prop :=
  ∃ (o : Obj) (its : Array Value) (n : Nat), K.lookup a = some o ∧ o.cls = .type "tuple" ∧ o.data = .seq its n ∧ its.size ≤ sizeLine ∧ Vals ws its.toList
def KL (K : PySem.W.Frag) (a : Addr) (ws : List V) : Prop :=
  ∃ (o : Obj) (its : Array Value) (n : Nat), K.lookup a = some o ∧ o.cls = .type "list" ∧ o.dict = none ∧ o.data = .seq its n ∧ its.size ≤ sizeLine ∧ Vals ws its.toList
def NT (K : PySem.W.Frag) (Z : ZS) (H : Hp) (a : Addr) (ws : List V) : Prop := (Z a ∧ H a = some (.tup ws) ∧ ws.length ≤ sizeLine) ∨ KT K a ws
def NL (K : PySem.W.Frag) (Z : ZS) (H : Hp) (a : Addr) (ws : List V) : Prop := (Z a ∧ Rd H a (.lst ws) ∧ ws.length ≤ sizeLine) ∨ KL K a ws
def LAt (H : Hp) (a : Addr) (ws : List V) : Prop := H a = some (.lst ws) ∧ ws.length ≤ sizeLine
def sOf : Val → Option Key
  | .int i => some (Sum.inl i)
  | .str x => some (Sum.inr x)
  | _ => none
def sOfs : List Val → Option (List Key)
  | [] => some []
  | x :: xs => (sOf x).bind fun k => (sOfs xs).map fun r => k :: r
def kOf : Val → Option DK
  | .int i => some (Sum.inl (Sum.inl i))
  | .str x => some (Sum.inl (Sum.inr x))
  | .tup xs => (sOfs xs).map Sum.inr
  | _ => none
def DicAt (H : Hp) (a : Addr) (ps : List (DK × V)) : Prop :=
  (∃ qs : List (Key × V), H a = some (.dK qs) ∧ ps = qs.map fun p => (Sum.inl p.1, p.2)) ∨ (∃ qs : List (List Key × V), H a = some (.dT qs) ∧ ps = qs.map fun p => (Sum.inr p.1, p.2))

mutual
def Rep (K : PySem.W.Frag) (Z : ZS) (H : Hp) : Val → V → Prop
  | .non, w => w = .non
  | .bl b, w => w = .bl b
  | .int i, w => w = .int i
  | .str x, w => w = .str x
  | .tup xs, w => ∃ a ws, w = .ref a ∧ NT K Z H a ws ∧ RepL K Z H xs ws
  | .lst xs, w => ∃ a ws, w = .ref a ∧ NL K Z H a ws ∧ RepL K Z H xs ws
  | .dic kvs, w => ∃ a ps, w = .ref a ∧ Z a ∧ DicAt H a ps ∧ RepD K Z H kvs ps
def RepL (K : PySem.W.Frag) (Z : ZS) (H : Hp) : List Val → List V → Prop
  | [], ws => ws = []
  | x :: xs, ws => ∃ w r, ws = w :: r ∧ Rep K Z H x w ∧ RepL K Z H xs r
def RepD (K : PySem.W.Frag) (Z : ZS) (H : Hp) : List (Val × Val) → List (DK × V) → Prop
  | [], ps => ps = []
  | (k, x) :: kvs, ps => ∃ dk w r, ps = (dk, w) :: r ∧ kOf k = some dk ∧ Rep K Z H x w ∧ RepD K Z H kvs r
end

/-- a container's content at an address that may change -/
def Top (K : PySem.W.Frag) (Z : ZS) (H : Hp) : Val → Addr → Prop
  | .lst xs, a => ∃ ws, LAt H a ws ∧ RepL K Z H xs ws
  | .dic kvs, a => ∃ ps, DicAt H a ps ∧ RepD K Z H kvs ps
  | _, _ => False

/-- what a step of the program may do to what is known: O may be changed by it -/
structure Stp (Z : ZS) (H : Hp) (O : ZS) (Z' : ZS) (H' : Hp) (O' : ZS) : Prop where
  keep : ∀ a o, H a = some o → ¬ O a → H' a = some o
  zm : ∀ a, Z a → Z' a
  zn : ∀ a, Z' a → Z a ∨ O a ∨ H a = none
  on : ∀ a, O' a → O a ∨ H a = none
  dom : ∀ a o, H a = some o → ∃ o', H' a = some o'

theorem Stp.refl (Z : ZS) (H : Hp) (O : ZS) : Stp Z H O Z H O := ⟨fun _ _ e _ => e, fun _ z => z, fun _ z => .inl z, fun _ z => .inl z, fun _ o e => ⟨o, e⟩⟩
theorem Stp.back {Z Z1 : ZS} {H H1 : Hp} {O O1 : ZS} (p : Stp Z H O Z1 H1 O1) {a : Addr} (e : H1 a = none) : H a = none := by
  cases h : H a with
  | none => rfl
  | some o => obtain ⟨o', q⟩ := p.dom a o h; rw [e] at q; cases q
theorem Stp.trans {Z Z1 Z2 : ZS} {H H1 H2 : Hp} {O O1 O2 : ZS} (p : Stp Z H O Z1 H1 O1) (q : Stp Z1 H1 O1 Z2 H2 O2) : Stp Z H O Z2 H2 O2 := by
  have fr : ∀ a, H1 a = none → O a ∨ H a = none := fun a e => .inr (p.back e)
  refine ⟨fun a o e n => q.keep a o (p.keep a o e n) fun h => ?_, fun a z => q.zm a (p.zm a z), fun a z => ?_, fun a z => ?_, fun a o e => let ⟨o', e'⟩ := p.dom a o e; q.dom a o' e'⟩
  · rcases p.on a h with h | h
    · exact n h
    · rw [e] at h; cases h
  · rcases q.zn a z with h | h | h
    · exact p.zn a h
    · rcases p.on a h with h | h
      · exact .inr (.inl h)
      · exact .inr (.inr h)
    · exact .inr (fr a h)
  · rcases q.on a z with h | h
    · exact p.on a h
    · exact fr a h
theorem Stp.sub {Z Z1 : ZS} {H H1 : Hp} {O O1 O2 : ZS} (p : Stp Z H O Z1 H1 O1) (h : ∀ a, O2 a → O1 a) : Stp Z H O Z1 H1 O2 := ⟨p.keep, p.zm, p.zn, fun a z => p.on a (h a z), p.dom⟩

section
variable {K : PySem.W.Frag} {Z Z' : ZS} {H H' : Hp}
theorem NT.st {a : Addr} {ws : List V} (z : ∀ a, Z a → Z' a) (k : ∀ a o, Z a → H a = some o → H' a = some o) (h : NT K Z H a ws) : NT K Z' H' a ws := by
  rcases h with ⟨h1, h2, h3⟩ | h
  · exact .inl ⟨z a h1, k a _ h1 h2, h3⟩
  · exact .inr h
theorem NL.st {a : Addr} {ws : List V} (z : ∀ a, Z a → Z' a) (k : ∀ a o, Z a → H a = some o → H' a = some o) (h : NL K Z H a ws) : NL K Z' H' a ws := by
  rcases h with ⟨h1, h2 | ⟨o, h2⟩, h3⟩ | h
  · exact .inl ⟨z a h1, .inl (k a _ h1 h2), h3⟩
  · exact .inl ⟨z a h1, .inr ⟨o, k a _ h1 h2⟩, h3⟩
  · exact .inr h
theorem NT.sz {a : Addr} {ws : List V} (n : NT K Z H a ws) : ws.length ≤ sizeLine := by
  rcases n with ⟨_, _, e⟩ | ⟨o, its, n, _, _, _, h, r⟩
  · exact e
  · rw [r.length, Array.length_toList]; exact h
theorem NL.sz {a : Addr} {ws : List V} (n : NL K Z H a ws) : ws.length ≤ sizeLine := by
  rcases n with ⟨_, _, e⟩ | ⟨o, its, n, _, _, _, _, h, r⟩
  · exact e
  · rw [r.length, Array.length_toList]; exact h
theorem DicAt.st {a : Addr} {ps : List (DK × V)} (k : ∀ o, H a = some o → H' a = some o) (h : DicAt H a ps) : DicAt H' a ps := by
  rcases h with ⟨qs, e, h⟩ | ⟨qs, e, h⟩
  · exact .inl ⟨qs, k _ e, h⟩
  · exact .inr ⟨qs, k _ e, h⟩
mutual
theorem Rep.st (z : ∀ a, Z a → Z' a) (k : ∀ a o, Z a → H a = some o → H' a = some o) : ∀ (v : Val) {w : V}, Rep K Z H v w → Rep K Z' H' v w
  | .non, _, h => by simpa only [Rep] using h
  | .bl _, _, h => by simpa only [Rep] using h
  | .int _, _, h => by simpa only [Rep] using h
  | .str _, _, h => by simpa only [Rep] using h
  | .tup xs, w, h => by
    simp only [Rep] at h ⊢
    obtain ⟨a, ws, e, n, r⟩ := h
    exact ⟨a, ws, e, n.st z k, RepL.st z k xs r⟩
  | .lst xs, w, h => by
    simp only [Rep] at h ⊢
    obtain ⟨a, ws, e, n, r⟩ := h
    exact ⟨a, ws, e, n.st z k, RepL.st z k xs r⟩
  | .dic kvs, w, h => by
    simp only [Rep] at h ⊢
    obtain ⟨a, ps, e, n, d, r⟩ := h
    exact ⟨a, ps, e, z a n, d.st fun o => k a o n, RepD.st z k kvs r⟩
theorem RepL.st (z : ∀ a, Z a → Z' a) (k : ∀ a o, Z a → H a = some o → H' a = some o) : ∀ (xs : List Val) {ws : List V}, RepL K Z H xs ws → RepL K Z' H' xs ws
  | [], _, h => by simpa only [RepL] using h
  | x :: xs, ws, h => by
    simp only [RepL] at h ⊢
    obtain ⟨w, r, e, h1, h2⟩ := h
    exact ⟨w, r, e, Rep.st z k x h1, RepL.st z k xs h2⟩
theorem RepD.st (z : ∀ a, Z a → Z' a) (k : ∀ a o, Z a → H a = some o → H' a = some o) : ∀ (xs : List (Val × Val)) {ws : List (DK × V)}, RepD K Z H xs ws → RepD K Z' H' xs ws
  | [], _, h => by simpa only [RepD] using h
  | (q, x) :: xs, ws, h => by
    simp only [RepD] at h ⊢
    obtain ⟨dk, w, r, e, hk, h1, h2⟩ := h
    exact ⟨dk, w, r, e, hk, Rep.st z k x h1, RepD.st z k xs h2⟩
end
theorem RepL.length : ∀ {xs : List Val} {ws : List V}, RepL K Z H xs ws → xs.length = ws.length
  | [], ws, h => by simp only [RepL] at h; subst h; rfl
  | x :: xs, ws, h => by
    simp only [RepL] at h
    obtain ⟨w, r, rfl, _, h2⟩ := h
    simp only [List.length_cons, RepL.length h2]
theorem RepL.get : ∀ {xs : List Val} {ws : List V} {i : Nat} {x : Val}, RepL K Z H xs ws → xs[i]? = some x → ∃ w, ws[i]? = some w ∧ Rep K Z H x w
  | [], _, _, _, _, e => by simp at e
  | y :: xs, ws, 0, x, h, e => by
    simp only [RepL] at h
    obtain ⟨w, r, rfl, h1, h2⟩ := h
    simp at e; subst e
    exact ⟨w, rfl, h1⟩
  | y :: xs, ws, i + 1, x, h, e => by
    simp only [RepL] at h
    obtain ⟨w, r, rfl, h1, h2⟩ := h
    obtain ⟨w', e1, e2⟩ := RepL.get (i := i) (x := x) h2 (by simpa using e)
    exact ⟨w', by simpa using e1, e2⟩
theorem RepL.get' : ∀ {xs : List Val} {ws : List V} {i : Nat} {w : V}, RepL K Z H xs ws → ws[i]? = some w → ∃ x, xs[i]? = some x ∧ Rep K Z H x w := by
  intro xs ws i w h e
  have hl := h.length
  have hi : i < xs.length := by rw [hl]; exact (List.getElem?_eq_some_iff.mp e).1
  obtain ⟨w', e1, e2⟩ := h.get (List.getElem?_eq_getElem hi)
  rw [e] at e1; cases e1
  exact ⟨_, List.getElem?_eq_getElem hi, e2⟩
theorem RepL.append : ∀ {xs ys : List Val} {ws us : List V}, RepL K Z H xs ws → RepL K Z H ys us → RepL K Z H (xs ++ ys) (ws ++ us)
  | [], ys, ws, us, h, h2 => by simp only [RepL] at h; subst h; exact h2
  | x :: xs, ys, ws, us, h, h2 => by
    simp only [RepL] at h
    obtain ⟨w, r, rfl, h1, h3⟩ := h
    show RepL K Z H (x :: (xs ++ ys)) (w :: (r ++ us))
    simp only [RepL]
    exact ⟨w, _, rfl, h1, RepL.append h3 h2⟩
theorem RepL.one {x : Val} {w : V} (h : Rep K Z H x w) : RepL K Z H [x] [w] := by simp only [RepL]; exact ⟨w, [], rfl, h, rfl⟩
theorem RepL.cons {x : Val} {w : V} {xs : List Val} {ws : List V} (h : Rep K Z H x w) (h2 : RepL K Z H xs ws) : RepL K Z H (x :: xs) (w :: ws) := by simp only [RepL]; exact ⟨w, ws, rfl, h, h2⟩
theorem RepL.nil : RepL K Z H [] [] := by simp only [RepL]
theorem RepL.take : ∀ {xs : List Val} {ws : List V} (n : Nat), RepL K Z H xs ws → RepL K Z H (xs.take n) (ws.take n)
  | [], ws, n, h => by simp only [RepL] at h; subst h; simp [RepL.nil]
  | x :: xs, ws, 0, h => by simp [RepL.nil]
  | x :: xs, ws, n + 1, h => by
    simp only [RepL] at h
    obtain ⟨w, r, rfl, h1, h2⟩ := h
    exact RepL.cons h1 (RepL.take n h2)
theorem RepL.drop : ∀ {xs : List Val} {ws : List V} (n : Nat), RepL K Z H xs ws → RepL K Z H (xs.drop n) (ws.drop n)
  | [], ws, n, h => by simp only [RepL] at h; subst h; simp [RepL.nil]
  | x :: xs, ws, 0, h => h
  | x :: xs, ws, n + 1, h => by
    simp only [RepL] at h
    obtain ⟨w, r, rfl, h1, h2⟩ := h
    exact RepL.drop n h2
theorem RepL.reverse : ∀ {xs : List Val} {ws : List V}, RepL K Z H xs ws → RepL K Z H xs.reverse ws.reverse
  | [], ws, h => by simp only [RepL] at h; subst h; exact RepL.nil
  | x :: xs, ws, h => by
    simp only [RepL] at h
    obtain ⟨w, r, rfl, h1, h2⟩ := h
    rw [List.reverse_cons, List.reverse_cons]
    exact RepL.append (RepL.reverse h2) (RepL.one h1)
theorem RepL.set {x : Val} {w : V} (hx : Rep K Z H x w) : ∀ {xs : List Val} {ws : List V} (n : Nat), RepL K Z H xs ws → RepL K Z H (xs.set n x) (ws.set n w)
  | [], ws, n, h => by simp only [RepL] at h; subst h; exact RepL.nil
  | y :: xs, ws, 0, h => by
    simp only [RepL] at h
    obtain ⟨w', r, rfl, h1, h2⟩ := h
    exact RepL.cons hx h2
  | y :: xs, ws, n + 1, h => by
    simp only [RepL] at h
    obtain ⟨w', r, rfl, h1, h2⟩ := h
    exact RepL.cons h1 (RepL.set hx n h2)
theorem RepL.eraseIdx : ∀ {xs : List Val} {ws : List V} (n : Nat), RepL K Z H xs ws → RepL K Z H (xs.eraseIdx n) (ws.eraseIdx n)
  | [], ws, n, h => by simp only [RepL] at h; subst h; exact RepL.nil
  | y :: xs, ws, 0, h => by
    simp only [RepL] at h
    obtain ⟨w', r, rfl, h1, h2⟩ := h
    exact h2
  | y :: xs, ws, n + 1, h => by
    simp only [RepL] at h
    obtain ⟨w', r, rfl, h1, h2⟩ := h
    exact RepL.cons h1 (RepL.eraseIdx n h2)
theorem RepL.flat {xs : List Val} {ws : List V} (h : RepL K Z H xs ws) : ∀ n, RepL K Z H (List.replicate n xs).flatten (List.replicate n ws).flatten
  | 0 => RepL.nil
  | n + 1 => by
    rw [List.replicate_succ, List.replicate_succ, List.flatten_cons, List.flatten_cons]
    exact RepL.append h (h.flat n)
theorem NT.sq {a : Addr} {ws : List V} (h : NT K Z H a ws) : SqT K H a ws := by
  rcases h with ⟨_, h, _⟩ | h
  · exact .inl (.inl h)
  · exact .inr h
theorem NL.sq {a : Addr} {ws : List V} (h : NL K Z H a ws) : SqL K H a ws := by
  rcases h with ⟨_, h, _⟩ | h
  · exact .inl h
  · exact .inr h
theorem Top.st {v : Val} {a : Addr} (z : ∀ a, Z a → Z' a) (k : ∀ a o, Z a → H a = some o → H' a = some o) (k2 : ∀ o, H a = some o → H' a = some o) (h : Top K Z H v a) : Top K Z' H' v a := by
  cases v with
  | lst xs =>
    obtain ⟨ws, e, r⟩ := (show ∃ ws, LAt H a ws ∧ RepL K Z H xs ws from h)
    exact (show ∃ ws, LAt H' a ws ∧ RepL K Z' H' xs ws from ⟨ws, ⟨k2 _ e.1, e.2⟩, RepL.st z k xs r⟩)
  | dic kvs =>
    obtain ⟨ps, e, r⟩ := (show ∃ ps, DicAt H a ps ∧ RepD K Z H kvs ps from h)
    exact (show ∃ ps, DicAt H' a ps ∧ RepD K Z' H' kvs ps from ⟨ps, e.st k2, RepD.st z k kvs r⟩)
  | _ => exact False.elim h
theorem Top.there {v : Val} {a : Addr} (h : Top K Z H v a) : ∃ o, H a = some o := by
  cases v with
  | lst xs => obtain ⟨ws, e, r⟩ := (show ∃ ws, LAt H a ws ∧ RepL K Z H xs ws from h); exact ⟨_, e.1⟩
  | dic kvs =>
    obtain ⟨ps, e, r⟩ := (show ∃ ps, DicAt H a ps ∧ RepD K Z H kvs ps from h)
    rcases e with ⟨qs, e, _⟩ | ⟨qs, e, _⟩ <;> exact ⟨_, e⟩
  | _ => exact False.elim h
/-- what was a container of one's own is let go: it is known from now on -/
theorem Top.frz {v : Val} {a : Addr} (za : Z a) (h : Top K Z H v a) : Rep K Z H v (.ref a) := by
  cases v with
  | lst xs =>
    obtain ⟨ws, e, r⟩ := (show ∃ ws, LAt H a ws ∧ RepL K Z H xs ws from h)
    simp only [Rep]
    exact ⟨a, ws, rfl, .inl ⟨za, .inl e.1, e.2⟩, r⟩
  | dic kvs =>
    obtain ⟨ps, e, r⟩ := (show ∃ ps, DicAt H a ps ∧ RepD K Z H kvs ps from h)
    simp only [Rep]
    exact ⟨a, ps, rfl, za, e, r⟩
  | _ => exact False.elim h
end

/-! ### the state by slots -/
inductive Sl where | no | im (v : Val) | ow (v : Val)
abbrev En := List Sl
abbrev Stt := L2.St
def SlOk (K : PySem.W.Frag) (Z : ZS) (H : Hp) (σ : Stt) (i : Nat) : Sl → Prop
  | .no => True
  | .im v => ∃ w, σ[i]? = some (some w) ∧ Rep K Z H v w
  | .ow v => ∃ a, σ[i]? = some (some (V.ref a)) ∧ Top K Z H v a ∧ ¬ Z a
def Own (env : En) (σ : Stt) : ZS := fun a => ∃ (i : Nat) (v : Val), env[i]? = some (Sl.ow v) ∧ σ[i]? = some (some (V.ref a))
structure Hld (K : PySem.W.Frag) (Z : ZS) (H : Hp) (σ : Stt) (env : En) : Prop where
  sl : ∀ (i : Nat) (s : Sl), env[i]? = some s → SlOk K Z H σ i s
  inj : ∀ (i j : Nat) (v u : Val) (a : Addr), env[i]? = some (Sl.ow v) → env[j]? = some (Sl.ow u) → σ[i]? = some (some (V.ref a)) → σ[j]? = some (some (V.ref a)) → i = j
  zd : ∀ a, Z a → ∃ o, H a = some o
  len : env.length = σ.length
section
variable {K : PySem.W.Frag} {Z Z' : ZS} {H H' : Hp} {σ : Stt} {env env' : En}
theorem Hld.imm (h : Hld K Z H σ env) {i : Nat} {v : Val} (e : env[i]? = some (Sl.im v)) : ∃ w, σ[i]? = some (some w) ∧ Rep K Z H v w := h.sl i _ e
theorem Hld.own (h : Hld K Z H σ env) {i : Nat} {v : Val} (e : env[i]? = some (Sl.ow v)) : ∃ a, σ[i]? = some (some (V.ref a)) ∧ Top K Z H v a ∧ ¬ Z a := h.sl i _ e
theorem Hld.oz (h : Hld K Z H σ env) {a : Addr} (o : Own env σ a) : ¬ Z a := by
  obtain ⟨i, v, e, s⟩ := o
  obtain ⟨b, s', _, n⟩ := h.own e
  rw [s] at s'; cases s'; exact n
theorem Hld.od (h : Hld K Z H σ env) {a : Addr} (o : Own env σ a) : ∃ u, H a = some u := by
  obtain ⟨i, v, e, s⟩ := o
  obtain ⟨b, s', t, n⟩ := h.own e
  rw [s] at s'; cases s'; exact t.there
theorem Hld.fz (h : Hld K Z H σ env) {p : Addr} (n : H p = none) : ¬ Z p := fun z => by obtain ⟨o, e⟩ := h.zd p z; rw [n] at e; cases e
theorem Hld.fo (h : Hld K Z H σ env) {p : Addr} (n : H p = none) : ¬ Own env σ p := fun z => by obtain ⟨o, e⟩ := h.od z; rw [n] at e; cases e
/-- the heap grows: nothing known is changed; Z may grow by what is not one's own -/
theorem Hld.grow (h : Hld K Z H σ env) (k : ∀ a o, H a = some o → H' a = some o) (zm : ∀ a, Z a → Z' a) (zn : ∀ a, Z' a → Z a ∨ H a = none) (zd : ∀ a, Z' a → ∃ o, H' a = some o) : Hld K Z' H' σ env := by
  refine ⟨fun i s e => ?_, h.inj, zd, h.len⟩
  have q := h.sl i s e
  cases s with
  | no => trivial
  | im v =>
    obtain ⟨w, s, r⟩ := (show ∃ w, σ[i]? = some (some w) ∧ Rep K Z H v w from q)
    exact ⟨w, s, Rep.st zm (fun a o _ => k a o) v r⟩
  | ow v =>
    obtain ⟨a, s, t, n⟩ := (show ∃ a, σ[i]? = some (some (V.ref a)) ∧ Top K Z H v a ∧ ¬ Z a from q)
    refine ⟨a, s, Top.st zm (fun a o _ => k a o) (k a) t, fun z => ?_⟩
    rcases zn a z with z | z
    · exact n z
    · obtain ⟨o, e⟩ := t.there; rw [z] at e; cases e
end

/-! ### judgements -/
section
variable (X : Cx)
def wpE (e : Expr) : TE := fun σ H Q => ∀ pins s, Inv X pins σ H s → wpAny (model X.prog X.w) X.A (eval e X.env) (EP X pins σ Q) X.xe s
def wpT (e : Expr) : TT := fun σ H Q => ∀ pins s, Inv X pins σ H s → wpAny (model X.prog X.w) X.A (isTrue e X.env (eval e X.env)) (TP X pins σ Q) X.xe s
def wpA (es : List Expr) : TA := fun σ H Q => ∀ pos pins s, Inv X pins σ H s → wpAny (model X.prog X.w) X.A (spliced (backTo pos (starEach es X.env))) (AP X pins σ Q) X.xe s
def wpS (st : Stmt) : TS := fun D σ H => ∀ pins s, Inv X pins σ H s → wpAny (model X.prog X.w) X.A (exec st X.env) (SP X pins D) X.xe s
def wpSs (st : List Stmt) : TS := fun D σ H => ∀ pins s, Inv X pins σ H s → wpAny (model X.prog X.w) X.A (execs st X.env) (SP X pins D) X.xe s
def wpG (tg : Expr) : TG := fun v σ H Q => ∀ pins s u, Inv X pins σ H s → RelV v u → wpAny (model X.prog X.w) X.A (assign tg X.env u) (fun _ s' => ∃ σ' H', Inv X pins σ' H' s' ∧ Q σ' H') X.xe s
end
section
variable {X : Cx}
theorem pe_wp (e : Expr) : PE X e (wpE X e) := ⟨fun pins s σ H Q I h => h pins s I⟩
theorem pt_wp (e : Expr) : PT X e (wpT X e) := ⟨fun pins s σ H Q I h => h pins s I⟩
theorem pa_wp (es : List Expr) : PA X es (wpA X es) := ⟨fun pos pins s σ H Q I h => h pos pins s I⟩
theorem ps_wp (st : Stmt) : PS X st (wpS X st) := ⟨fun pins s σ H D I h => h pins s I⟩
theorem pss_wp (st : List Stmt) : PSs X st (wpSs X st) := ⟨fun pins s σ H D I h => h pins s I⟩
theorem pg_wp (tg : Expr) : PG X tg (wpG X tg) := ⟨fun pins s σ H v u Q I r h => h pins s u I r⟩
theorem wp_pe {e : Expr} {t : TE} {σ : Stt} {H : Hp} {Q : VK} (p : PE X e t) (h : t σ H Q) : wpE X e σ H Q := fun pins s I => p.run pins s σ H Q I h
theorem wp_pt {e : Expr} {t : TT} {σ : Stt} {H : Hp} {Q : Bool → Hp → Prop} (p : PT X e t) (h : t σ H Q) : wpT X e σ H Q := fun pins s I => p.run pins s σ H Q I h
theorem wp_pa {es : List Expr} {t : TA} {σ : Stt} {H : Hp} {Q : List V → Hp → Prop} (p : PA X es t) (h : t σ H Q) : wpA X es σ H Q := fun pos pins s I => p.run pos pins s σ H Q I h
theorem wp_ps {st : Stmt} {t : TS} {σ : Stt} {H : Hp} {D : Ends} (p : PS X st t) (h : t D σ H) : wpS X st D σ H := fun pins s I => p.run pins s σ H D I h
theorem wp_pss {st : List Stmt} {t : TS} {σ : Stt} {H : Hp} {D : Ends} (p : PSs X st t) (h : t D σ H) : wpSs X st D σ H := fun pins s I => p.run pins s σ H D I h
theorem wp_pg {tg : Expr} {t : TG} {v : V} {σ : Stt} {H : Hp} {Q : Stt → Hp → Prop} (p : PG X tg t) (h : t v σ H Q) : wpG X tg v σ H Q := fun pins s u I r => p.run pins s σ H v u Q I r h
end

/-- an operand: a value, or a slot with a container of one's own -/
inductive Opd where | val (v : Val) | slot (i : Nat)
def RepO (K : PySem.W.Frag) (Z : ZS) (H : Hp) (σ : Stt) : Opd → V → Prop
  | .val v, w => Rep K Z H v w
  | .slot i, w => σ[i]? = some (some w)

def Ev (X : Cx) (e : Expr) (env : En) (o : Opd) (env' : En) : Prop := ∀ (Z : ZS) (H : Hp) (σ : Stt) (Q : VK), Hld X.K Z H σ env →
  (∀ Z' H' w, Stp Z H (Own env σ) Z' H' (Own env' σ) → Hld X.K Z' H' σ env' → RepO X.K Z' H' σ o w → Q w H') → wpE X e σ H Q
/-- a new container -/
def EvN (X : Cx) (e : Expr) (env : En) (v : Val) (env' : En) : Prop := ∀ (Z : ZS) (H : Hp) (σ : Stt) (Q : VK), Hld X.K Z H σ env →
  (∀ Z' H' a, Stp Z H (Own env σ) Z' H' (Own env' σ) → Hld X.K Z' H' σ env' → Top X.K Z' H' v a → ¬ Z' a → ¬ Own env' σ a → H a = none → Q (.ref a) H') → wpE X e σ H Q
def EvT (X : Cx) (e : Expr) (env : En) (b : Bool) (env' : En) : Prop := ∀ (Z : ZS) (H : Hp) (σ : Stt) (Q : Bool → Hp → Prop), Hld X.K Z H σ env →
  (∀ Z' H', Stp Z H (Own env σ) Z' H' (Own env' σ) → Hld X.K Z' H' σ env' → Q b H') → wpT X e σ H Q
def RepOs (K : PySem.W.Frag) (Z : ZS) (H : Hp) (σ : Stt) : List Opd → List V → Prop
  | [], ws => ws = []
  | o :: os, ws => ∃ w r, ws = w :: r ∧ RepO K Z H σ o w ∧ RepOs K Z H σ os r
def EvA (X : Cx) (es : List Expr) (env : En) (os : List Opd) (env' : En) : Prop := ∀ (Z : ZS) (H : Hp) (σ : Stt) (Q : List V → Hp → Prop), Hld X.K Z H σ env →
  (∀ Z' H' ws, Stp Z H (Own env σ) Z' H' (Own env' σ) → Hld X.K Z' H' σ env' → RepOs X.K Z' H' σ os ws → Q ws H') → wpA X es σ H Q

inductive Rt where | im (v : Val) | ow (v : Val)
inductive Out where | nx (env : En) | rt (r : Rt) (env : En) | bk (env : En) | ct (env : En)
/-- slots that stay -/
def Fix (M : List Nat) (σ σ' : Stt) : Prop := ∀ i ∈ M, σ'[i]? = σ[i]?
def RepR (K : PySem.W.Frag) (Z : ZS) (H H0 : Hp) (O : ZS) : Rt → V → Prop
  | .im v, w => Rep K Z H v w
  | .ow v, w => ∃ a, w = .ref a ∧ Top K Z H v a ∧ ¬ Z a ∧ ¬ O a
def Post (X : Cx) (M : List Nat) (Z : ZS) (H : Hp) (O : ZS) (σ : Stt) (D : Ends) : Out → Prop
  | .nx env' => ∀ Z' H' σ', Stp Z H O Z' H' (Own env' σ') → Hld X.K Z' H' σ' env' → Fix M σ σ' → D.nx σ' H'
  | .bk env' => ∀ Z' H' σ', Stp Z H O Z' H' (Own env' σ') → Hld X.K Z' H' σ' env' → Fix M σ σ' → D.bk σ' H'
  | .ct env' => ∀ Z' H' σ', Stp Z H O Z' H' (Own env' σ') → Hld X.K Z' H' σ' env' → Fix M σ σ' → D.ct σ' H'
  | .rt r env' => ∀ Z' H' σ' w, Stp Z H O Z' H' (fun a => Own env' σ' a ∨ (w = .ref a ∧ ∃ v, r = .ow v)) → Hld X.K Z' H' σ' env' → Fix M σ σ' → RepR X.K Z' H' H (Own env' σ') r w → D.rt w H'
def EvS (X : Cx) (M : List Nat) (st : Stmt) (env : En) (out : Out) : Prop := ∀ (Z : ZS) (H : Hp) (σ : Stt) (D : Ends), Hld X.K Z H σ env → Post X M Z H (Own env σ) σ D out → wpS X st D σ H
def EvSs (X : Cx) (M : List Nat) (st : List Stmt) (env : En) (out : Out) : Prop := ∀ (Z : ZS) (H : Hp) (σ : Stt) (D : Ends), Hld X.K Z H σ env → Post X M Z H (Own env σ) σ D out → wpSs X st D σ H
/-- a target takes a value -/
def EvG (X : Cx) (M : List Nat) (tg : Expr) (v : Val) (env env' : En) : Prop := ∀ (Z : ZS) (H : Hp) (σ : Stt) (Q : Stt → Hp → Prop) (w : V), Hld X.K Z H σ env → Rep X.K Z H v w →
  (∀ Z' H' σ', Stp Z H (Own env σ) Z' H' (Own env' σ') → Hld X.K Z' H' σ' env' → Fix M σ σ' → Q σ' H') → wpG X tg w σ H Q
end VL

/-! VL2: expressions. -/
namespace VL
open PySem PySem.Spec PyProof.Rows L2

section
variable {K : PySem.W.Frag} {Z Z' : ZS} {H H' : Hp} {σ : Stt} {env env' : En}
theorem rep_int (i : Int) : Rep K Z H (.int i) (.int i) := by simp only [Rep]
theorem rep_bl (i : Bool) : Rep K Z H (.bl i) (.bl i) := by simp only [Rep]
theorem rep_str (i : Str) : Rep K Z H (.str i) (.str i) := by simp only [Rep]
theorem rep_non : Rep K Z H .non .non := by simp only [Rep]
theorem rep_int' {i : Int} {w : V} (h : Rep K Z H (.int i) w) : w = .int i := by simpa only [Rep] using h
theorem rep_bl' {i : Bool} {w : V} (h : Rep K Z H (.bl i) w) : w = .bl i := by simpa only [Rep] using h
theorem rep_str' {i : Str} {w : V} (h : Rep K Z H (.str i) w) : w = .str i := by simpa only [Rep] using h
theorem rep_non' {w : V} (h : Rep K Z H .non w) : w = .non := by simpa only [Rep] using h
theorem Hld.zk (h : Hld K Z H σ env) {Z' H' O'} (s : Stp Z H (Own env σ) Z' H' O') : ∀ a o, Z a → H a = some o → H' a = some o := fun a o z e => s.keep a o e fun x => h.oz x z
theorem RepO.st {o : Opd} {w : V} {Z' H' O'} (h : Hld K Z H σ env) (s : Stp Z H (Own env σ) Z' H' O') (r : RepO K Z H σ o w) : RepO K Z' H' σ o w := by
  cases o with
  | val v => exact Rep.st s.zm (h.zk s) v r
  | slot i => exact r
theorem RepOs.st {Z' H' O'} (h : Hld K Z H σ env) (s : Stp Z H (Own env σ) Z' H' O') : ∀ {os : List Opd} {ws : List V}, RepOs K Z H σ os ws → RepOs K Z' H' σ os ws
  | [], _, r => r
  | o :: os, ws, ⟨w, q, e, h1, h2⟩ => ⟨w, q, e, h1.st h s, RepOs.st h s h2⟩
/-- a new object that is let go at once -/
theorem Hld.newZ (h : Hld K Z H σ env) {p : Addr} {o : HO} (n : H p = none) : Hld K (fun a => Z a ∨ a = p) (upd H p o) σ env ∧ Stp Z H (Own env σ) (fun a => Z a ∨ a = p) (upd H p o) (Own env σ) := by
  have k : ∀ a o', H a = some o' → upd H p o a = some o' := fun a o' e => by rw [upd_ne (ne_of_none e n)]; exact e
  refine ⟨h.grow k (fun a z => .inl z) (fun a z => ?_) (fun a z => ?_), ⟨fun a o' e _ => k a o' e, fun a z => .inl z, fun a z => ?_, fun a z => .inl z, fun a o' e => ⟨o', k a o' e⟩⟩⟩
  · rcases z with z | rfl
    · exact .inl z
    · exact .inr n
  · rcases z with z | rfl
    · obtain ⟨u, e⟩ := h.zd a z; exact ⟨u, k a u e⟩
    · exact ⟨o, upd_same⟩
  · rcases z with z | rfl
    · exact .inl z
    · exact .inr (.inr n)
/-- a new object of one's own -/
theorem Hld.newO (h : Hld K Z H σ env) {p : Addr} {o : HO} (n : H p = none) : Hld K Z (upd H p o) σ env ∧ Stp Z H (Own env σ) Z (upd H p o) (Own env σ) ∧ ¬ Z p ∧ ¬ Own env σ p := by
  have k : ∀ a o', H a = some o' → upd H p o a = some o' := fun a o' e => by rw [upd_ne (ne_of_none e n)]; exact e
  refine ⟨h.grow k (fun a z => z) (fun a z => .inl z) (fun a z => ?_), ⟨fun a o' e _ => k a o' e, fun a z => z, fun a z => .inl z, fun a z => .inl z, fun a o' e => ⟨o', k a o' e⟩⟩, h.fz n, h.fo n⟩
  obtain ⟨u, e⟩ := h.zd a z; exact ⟨u, k a u e⟩
/-- a container of one's own outside the slots is let go -/
theorem Hld.free (h : Hld K Z H σ env) {p : Addr} {o : HO} (e : H p = some o) (n : ¬ Own env σ p) : Hld K (fun a => Z a ∨ a = p) H σ env := by
  refine ⟨fun i s q => ?_, h.inj, fun a z => ?_, h.len⟩
  · have r := h.sl i s q
    cases s with
    | no => trivial
    | im v =>
      obtain ⟨w, s, r⟩ := (show ∃ w, σ[i]? = some (some w) ∧ Rep K Z H v w from r)
      exact ⟨w, s, Rep.st (fun a z => .inl z) (fun _ _ _ e => e) v r⟩
    | ow v =>
      obtain ⟨a, s, t, nz⟩ := (show ∃ a, σ[i]? = some (some (V.ref a)) ∧ Top K Z H v a ∧ ¬ Z a from r)
      refine ⟨a, s, Top.st (fun a z => .inl z) (fun _ _ _ e => e) (fun _ e => e) t, fun z => ?_⟩
      rcases z with z | rfl
      · exact nz z
      · exact n ⟨i, v, q, s⟩
  · rcases z with z | rfl
    · exact h.zd a z
    · exact ⟨o, e⟩
end

section
variable {X : Cx} {a b c e : Expr} {env env1 env2 env3 : En} {oa ob oc : Opd} {v va vb : Val} {pos pos' : Pos}

/-! ### names, constants -/
theorem ev_c {w : V} (p : PE X e (tC w)) (h : ∀ Z H, Rep X.K Z H v w) : Ev X e env (.val v) env := fun Z H σ Q hH k =>
  wp_pe p (k Z H w (Stp.refl ..) hH (h Z H))
theorem ev_int {i : Int} {j : Nat} : Ev X (.Constant (.int i) j pos) env (.val (.int i)) env := ev_c pe_int fun _ _ => rep_int i
theorem ev_bl {i : Bool} {j : Nat} : Ev X (.Constant (.bool i) j pos) env (.val (.bl i)) env := ev_c pe_bl fun _ _ => rep_bl i
theorem ev_non {j : Nat} : Ev X (.Constant .none j pos) env (.val .non) env := ev_c pe_non fun _ _ => rep_non
theorem ev_str {x : Str} {j : Nat} : Ev X (.Constant (.str x) j pos) env (.val (.str x)) env := ev_c pe_str fun _ _ => rep_str x
/-- a slot read -/
theorem ev_v (i : Nat) {x : Str} (h : env[i]? = some (Sl.im v) := by rfl) (p : PE X (.Name x pos) (tVar i) := by exact pv _) : Ev X (.Name x pos) env (.val v) env := fun Z H σ Q hH k => by
  refine wp_pe p ?_
  obtain ⟨w, s, r⟩ := hH.imm h
  exact ⟨w, s, k Z H w (Stp.refl ..) hH r⟩
/-- a slot with a container of one's own -/
theorem ev_o (i : Nat) {x : Str} (h : env[i]? = some (Sl.ow v) := by rfl) (p : PE X (.Name x pos) (tVar i) := by exact pv _) : Ev X (.Name x pos) env (.slot i) env := fun Z H σ Q hH k => by
  refine wp_pe p ?_
  obtain ⟨a, s, r⟩ := hH.own h
  exact ⟨_, s, k Z H _ (Stp.refl ..) hH s⟩
/-- a constant of the module -/
theorem ev_g {x : Str} {u : Value} {w : V} (hg : Gl X x) (hm : X.mg x = some u) (r : RelV w u) (h : ∀ Z H, Rep X.K Z H v w) (hd : (x == ("__debug__" : Str)) = false := by decide) : Ev X (.Name x pos) env (.val v) env :=
  ev_c (pe_glob hg hm r hd) h
/-- a new container let go at once -/
theorem EvN.frz (h : EvN X e env v env1) : Ev X e env (.val v) env1 := fun Z H σ Q hH k => by
  refine h Z H σ Q hH fun Z1 H1 p s h1 t nz no fr => ?_
  obtain ⟨o, e⟩ := t.there
  refine k (fun a => Z1 a ∨ a = p) H1 _ ⟨s.keep, fun a z => .inl (s.zm a z), fun a z => ?_, s.on, s.dom⟩ (h1.free e no) ?_
  · rcases z with z | rfl
    · exact s.zn a z
    · exact .inr (.inr fr)
  · exact Top.frz (.inr rfl) (Top.st (fun a z => .inl z) (fun _ _ _ e => e) (fun _ e => e) t)

/-! ### two operands, one operand -/
def Bin (K : PySem.W.Frag) (r : R2) (env : En) (oa ob : Opd) (v : Val) : Prop := ∀ (Z : ZS) (H : Hp) (σ : Stt) (Q : VK) (x y : V), Hld K Z H σ env → RepO K Z H σ oa x → RepO K Z H σ ob y →
  (∀ Z' H' w, Stp Z H (Own env σ) Z' H' (Own env σ) → Hld K Z' H' σ env → Rep K Z' H' v w → Q w H') → r x y H Q
def BinN (K : PySem.W.Frag) (r : R2) (env : En) (oa ob : Opd) (v : Val) : Prop := ∀ (Z : ZS) (H : Hp) (σ : Stt) (Q : VK) (x y : V), Hld K Z H σ env → RepO K Z H σ oa x → RepO K Z H σ ob y →
  (∀ Z' H' p, Stp Z H (Own env σ) Z' H' (Own env σ) → Hld K Z' H' σ env → Top K Z' H' v p → ¬ Z' p → ¬ Own env σ p → H p = none → Q (.ref p) H') → r x y H Q
theorem ev_op2 {r : R2} (p : PE X e (tOp r (wpE X a) (wpE X b))) (ha : Ev X a env oa env1) (hb : Ev X b env1 ob env2) (hr : Bin X.K r env2 oa ob v) : Ev X e env (.val v) env2 := fun Z H σ Q hH k => by
  refine wp_pe p ?_
  refine ha Z H σ _ hH fun Z1 H1 w1 s1 h1 r1 => ?_
  refine hb Z1 H1 σ _ h1 fun Z2 H2 w2 s2 h2 r2 => ?_
  exact hr Z2 H2 σ Q w1 w2 h2 (r1.st h1 s2) r2 fun Z3 H3 w3 s3 h3 r3 => k Z3 H3 w3 ((s1.trans s2).trans s3) h3 r3
theorem ev_op2N {r : R2} (p : PE X e (tOp r (wpE X a) (wpE X b))) (ha : Ev X a env oa env1) (hb : Ev X b env1 ob env2) (hr : BinN X.K r env2 oa ob v) : EvN X e env v env2 := fun Z H σ Q hH k => by
  refine wp_pe p ?_
  refine ha Z H σ _ hH fun Z1 H1 w1 s1 h1 r1 => ?_
  refine hb Z1 H1 σ _ h1 fun Z2 H2 w2 s2 h2 r2 => ?_
  exact hr Z2 H2 σ Q w1 w2 h2 (r1.st h1 s2) r2 fun Z3 H3 p s3 h3 t nz no fr => k Z3 H3 p ((s1.trans s2).trans s3) h3 t nz no ((s1.trans s2).back fr)
theorem ev_bin {op : Operator} {r : R2} (ho : OpR X (binaryOp op) r) (ha : Ev X a env oa env1) (hb : Ev X b env1 ob env2) (hr : Bin X.K r env2 oa ob v) : Ev X (.BinOp a op b pos) env (.val v) env2 :=
  ev_op2 (pe_op ho (pe_wp a) (pe_wp b)) ha hb hr
theorem ev_binN {op : Operator} {r : R2} (ho : OpR X (binaryOp op) r) (ha : Ev X a env oa env1) (hb : Ev X b env1 ob env2) (hr : BinN X.K r env2 oa ob v) : EvN X (.BinOp a op b pos) env v env2 :=
  ev_op2N (pe_op ho (pe_wp a) (pe_wp b)) ha hb hr
theorem ev_cmp {op : CmpOp} {r : R2} (ho : OpR X (compareOp op) r) (hm : behindInMarks op b = false) (ha : Ev X a env oa env1) (hb : Ev X b env1 ob env2) (hr : Bin X.K r env2 oa ob v) : Ev X (.Compare a [op] [b] pos) env (.val v) env2 :=
  ev_op2 (pe_cmpR ho (pe_wp a) (pe_wp b) hm) ha hb hr
theorem et_cmp {op : CmpOp} {r : R2} {k : Bool} (ho : OpR X (compareOp op) r) (hm : behindInMarks op b = false) (ha : Ev X a env oa env1) (hb : Ev X b env1 ob env2) (hr : Bin X.K r env2 oa ob (.bl k)) : EvT X (.Compare a [op] [b] pos) env k env2 := fun Z H σ Q hH q => by
  refine wp_pt (pt_cmpR ho (pe_wp a) (pe_wp b) hm) ?_
  refine ha Z H σ _ hH fun Z1 H1 w1 s1 h1 r1 => ?_
  refine hb Z1 H1 σ _ h1 fun Z2 H2 w2 s2 h2 r2 => ?_
  refine hr Z2 H2 σ _ w1 w2 h2 (r1.st h1 s2) r2 fun Z3 H3 w3 s3 h3 r3 => ?_
  exact ⟨k, rep_bl' r3, q Z3 H3 ((s1.trans s2).trans s3) h3⟩
theorem bin_I0 {K : PySem.W.Frag} {g : Int → Int → V} {i j : Int} (hv : ∀ Z H, Rep K Z H v (g i j)) : Bin K (rI0 g) env (.val (.int i)) (.val (.int j)) v := fun Z H σ Q x y hH rx ry k =>
  ⟨i, j, rep_int' (K := K) (Z := Z) (H := H) rx, rep_int' (K := K) (Z := Z) (H := H) ry, k Z H _ (Stp.refl ..) hH (hv Z H)⟩
theorem bin_I {K : PySem.W.Frag} {C : Int → Int → Prop} {g : Int → Int → V} {i j : Int} (hc : C i j) (hv : ∀ Z H, Rep K Z H v (g i j)) : Bin K (rI C g) env (.val (.int i)) (.val (.int j)) v := fun Z H σ Q x y hH rx ry k =>
  ⟨i, j, rep_int' (K := K) (Z := Z) (H := H) rx, rep_int' (K := K) (Z := Z) (H := H) ry, hc, k Z H _ (Stp.refl ..) hH (hv Z H)⟩
variable {i j : Int}
theorem ev_add (ha : Ev X a env (.val (.int i)) env1) (hb : Ev X b env1 (.val (.int j)) env2) : Ev X (.BinOp a .Add b pos) env (.val (.int (i + j))) env2 := ev_bin op_add ha hb (bin_I0 fun _ _ => rep_int _)
theorem ev_sub (ha : Ev X a env (.val (.int i)) env1) (hb : Ev X b env1 (.val (.int j)) env2) : Ev X (.BinOp a .Sub b pos) env (.val (.int (i - j))) env2 := ev_bin op_sub ha hb (bin_I0 fun _ _ => rep_int _)
/-- what a product of two ints asks -/
def MulOk (i j : Int) : Prop := CMul i j ∨ CMulW i j
theorem MulOk.ok (h : MulOk i j) : IntMulOk i j := h.elim (·.ok) (·.ok)
theorem op_mulA : OpR X (binaryOp .Mult) (rI MulOk fun i j => .int (i * j)) := opI fun _ _ _ _ _ _ _ hc q => mul_int q hc.ok
theorem ev_mul (h : MulOk i j) (ha : Ev X a env (.val (.int i)) env1) (hb : Ev X b env1 (.val (.int j)) env2) : Ev X (.BinOp a .Mult b pos) env (.val (.int (i * j))) env2 := ev_bin op_mulA ha hb (bin_I h fun _ _ => rep_int _)
/-- what a quotient asks -/
def DivOk (j : Int) : Prop := 0 < j ∧ j.natAbs.log2 < 9000
theorem op_fdivA : OpR X (binaryOp .FloorDiv) (rI (fun _ j => DivOk j) fun i j => .int (i / j)) := opI fun i j _ _ _ _ _ hc q => by
  have h1 : (0 : Int) < j := hc.1
  exact floordiv_int (by omega) (by rw [Int.fdiv_eq_ediv_of_nonneg i (by omega)]; exact q) (.inl (PyProof.noPylong_of_log2 hc.2))
theorem ev_div (h : DivOk j) (ha : Ev X a env (.val (.int i)) env1) (hb : Ev X b env1 (.val (.int j)) env2) : Ev X (.BinOp a .FloorDiv b pos) env (.val (.int (i / j))) env2 := ev_bin op_fdivA ha hb (bin_I h fun _ _ => rep_int _)
theorem ev_mod (h : 0 < j) (ha : Ev X a env (.val (.int i)) env1) (hb : Ev X b env1 (.val (.int j)) env2) : Ev X (.BinOp a .Mod b pos) env (.val (.int (i % j))) env2 := ev_bin op_mod ha hb (bin_I h fun _ _ => rep_int _)
/-- .. by any divisor but 0 -/
def FDivOk (j : Int) : Prop := j ≠ 0 ∧ j.natAbs.log2 < 9000
theorem op_fdivF : OpR X (binaryOp .FloorDiv) (rI (fun _ j => FDivOk j) fun i j => .int (i.fdiv j)) := opI fun i j _ _ _ _ _ hc q => floordiv_int hc.1 q (.inl (PyProof.noPylong_of_log2 hc.2))
theorem ev_fdiv (h : FDivOk j) (ha : Ev X a env (.val (.int i)) env1) (hb : Ev X b env1 (.val (.int j)) env2) : Ev X (.BinOp a .FloorDiv b pos) env (.val (.int (i.fdiv j))) env2 := ev_bin op_fdivF ha hb (bin_I h fun _ _ => rep_int _)
theorem ev_pow {k : Nat} (h : i.natAbs < 2 ^ 64 ∧ k ≤ 1000000) (ha : Ev X a env (.val (.int i)) env1) (hb : Ev X b env1 (.val (.int k)) env2) : Ev X (.BinOp a .Pow b pos) env (.val (.int (i ^ k))) env2 :=
  ev_bin op_pow ha hb (bin_I (C := CPow) ⟨Int.natCast_nonneg _, by omega, h.1⟩ fun _ _ => by rw [Int.toNat_natCast]; exact rep_int _)
theorem ev_lt (ha : Ev X a env (.val (.int i)) env1) (hb : Ev X b env1 (.val (.int j)) env2) : Ev X (.Compare a [.Lt] [b] pos) env (.val (.bl (decide (i < j)))) env2 := ev_cmp op_lt (nomark _) ha hb (bin_I0 fun _ _ => rep_bl _)
theorem ev_le (ha : Ev X a env (.val (.int i)) env1) (hb : Ev X b env1 (.val (.int j)) env2) : Ev X (.Compare a [.LtE] [b] pos) env (.val (.bl (decide (i ≤ j)))) env2 := ev_cmp op_le (nomark _) ha hb (bin_I0 fun _ _ => rep_bl _)
theorem ev_gt (ha : Ev X a env (.val (.int i)) env1) (hb : Ev X b env1 (.val (.int j)) env2) : Ev X (.Compare a [.Gt] [b] pos) env (.val (.bl (decide (j < i)))) env2 := ev_cmp op_gt (nomark _) ha hb (bin_I0 fun _ _ => rep_bl _)
theorem ev_ge (ha : Ev X a env (.val (.int i)) env1) (hb : Ev X b env1 (.val (.int j)) env2) : Ev X (.Compare a [.GtE] [b] pos) env (.val (.bl (decide (j ≤ i)))) env2 := ev_cmp op_ge (nomark _) ha hb (bin_I0 fun _ _ => rep_bl _)
theorem et_lt (ha : Ev X a env (.val (.int i)) env1) (hb : Ev X b env1 (.val (.int j)) env2) : EvT X (.Compare a [.Lt] [b] pos) env (decide (i < j)) env2 := et_cmp op_lt (nomark _) ha hb (bin_I0 fun _ _ => rep_bl _)
theorem et_le (ha : Ev X a env (.val (.int i)) env1) (hb : Ev X b env1 (.val (.int j)) env2) : EvT X (.Compare a [.LtE] [b] pos) env (decide (i ≤ j)) env2 := et_cmp op_le (nomark _) ha hb (bin_I0 fun _ _ => rep_bl _)
theorem et_gt (ha : Ev X a env (.val (.int i)) env1) (hb : Ev X b env1 (.val (.int j)) env2) : EvT X (.Compare a [.Gt] [b] pos) env (decide (j < i)) env2 := et_cmp op_gt (nomark _) ha hb (bin_I0 fun _ _ => rep_bl _)
theorem et_ge (ha : Ev X a env (.val (.int i)) env1) (hb : Ev X b env1 (.val (.int j)) env2) : EvT X (.Compare a [.GtE] [b] pos) env (decide (j ≤ i)) env2 := et_cmp op_ge (nomark _) ha hb (bin_I0 fun _ _ => rep_bl _)
theorem ev_un {op : UnaryOp} {r : V → Hp → VK → Prop} (ho : UnR X (unaryOp op) r) (ha : Ev X a env oa env1) (hr : ∀ Z H σ Q x, Hld X.K Z H σ env1 → RepO X.K Z H σ oa x → (∀ w, Rep X.K Z H v w → Q w H) → r x H Q) : Ev X (.UnaryOp op a pos) env (.val v) env1 := fun Z H σ Q hH k => by
  refine wp_pe (pe_un ho (pe_wp a)) ?_
  refine ha Z H σ _ hH fun Z1 H1 w1 s1 h1 r1 => ?_
  exact hr Z1 H1 σ Q w1 h1 r1 fun w r => k Z1 H1 w s1 h1 r
theorem ev_neg (ha : Ev X a env (.val (.int i)) env1) : Ev X (.UnaryOp .USub a pos) env (.val (.int (-i))) env1 := ev_un un_neg ha fun Z H σ Q x _ r k => ⟨i, rep_int' (K := X.K) (Z := Z) (H := H) r, k _ (rep_int _)⟩
end
end VL

/-! VL3: containers, comparisons, tests, built-ins. -/
namespace VL
open PySem PySem.Spec PyProof.Rows L2

/-! ### what an operand holds -/
inductive Cont (env : En) : Opd → Val → Prop
  | val (v : Val) : Cont env (.val v) v
  | own {i : Nat} {v : Val} (h : env[i]? = some (Sl.ow v)) : Cont env (.slot i) v
def RepT (K : PySem.W.Frag) (Z : ZS) (H : Hp) (v : Val) (w : V) : Prop := Rep K Z H v w ∨ ∃ a, w = .ref a ∧ Top K Z H v a
section
variable {K : PySem.W.Frag} {Z Z' : ZS} {H H' : Hp} {σ : Stt} {env env' : En} {o : Opd} {v : Val} {w : V}
theorem Cont.rep (c : Cont env o v) (h : Hld K Z H σ env) (r : RepO K Z H σ o w) : RepT K Z H v w := by
  cases c with
  | val v => exact .inl r
  | own q =>
    obtain ⟨a, s, t, _⟩ := h.own q
    have r' : σ[_]? = some (some w) := r
    rw [s] at r'; cases r'
    exact .inr ⟨a, rfl, t⟩
inductive SeqV : Val → List Val → Prop
  | tup (xs : List Val) : SeqV (.tup xs) xs
  | lst (xs : List Val) : SeqV (.lst xs) xs
theorem RepT.lst {xs : List Val} (r : RepT K Z H (.lst xs) w) : ∃ a ws, w = .ref a ∧ SqL K H a ws ∧ RepL K Z H xs ws := by
  rcases r with r | ⟨a, e, ws, e2, r⟩
  · simp only [Rep] at r
    obtain ⟨a, ws, e, n, r⟩ := r
    exact ⟨a, ws, e, n.sq, r⟩
  · exact ⟨a, ws, e, .inl (.inl e2.1), r⟩
theorem RepT.tup {xs : List Val} (r : RepT K Z H (.tup xs) w) : ∃ a ws, w = .ref a ∧ SqT K H a ws ∧ RepL K Z H xs ws := by
  rcases r with r | ⟨a, e, r⟩
  · simp only [Rep] at r
    obtain ⟨a, ws, e, n, r⟩ := r
    exact ⟨a, ws, e, n.sq, r⟩
  · exact False.elim r
theorem RepT.szL {xs : List Val} (r : RepT K Z H (.lst xs) w) : xs.length ≤ sizeLine := by
  rcases r with r | ⟨a, e, ws, e2, r⟩
  · simp only [Rep] at r
    obtain ⟨a, ws, e, n, r⟩ := r
    rw [r.length]; exact n.sz
  · rw [r.length]; exact e2.2
theorem RepT.szT {xs : List Val} (r : RepT K Z H (.tup xs) w) : xs.length ≤ sizeLine := by
  rcases r with r | ⟨a, e, r⟩
  · simp only [Rep] at r
    obtain ⟨a, ws, e, n, r⟩ := r
    rw [r.length]; exact n.sz
  · exact False.elim r
theorem RepT.szS {xs : List Val} (q : SeqV v xs) (r : RepT K Z H v w) : xs.length ≤ sizeLine := by
  cases q with
  | tup xs => exact r.szT
  | lst xs => exact r.szL
theorem RepT.seq {xs : List Val} (q : SeqV v xs) (r : RepT K Z H v w) : ∃ a ws, w = .ref a ∧ (SqL K H a ws ∨ SqT K H a ws) ∧ RepL K Z H xs ws := by
  cases q with
  | tup xs => obtain ⟨a, ws, e, n, r⟩ := r.tup; exact ⟨a, ws, e, .inr n, r⟩
  | lst xs => obtain ⟨a, ws, e, n, r⟩ := r.lst; exact ⟨a, ws, e, .inl n, r⟩
end

/-! ### data -/
mutual
def dat : Val → PyData
  | .non => .none
  | .bl b => .bool b
  | .int i => .int i
  | .str x => .str x
  | .tup xs => .tuple (datL xs)
  | .lst xs => .list (datL xs)
  | .dic _ => .none
def datL : List Val → List PyData
  | [] => []
  | x :: xs => dat x :: datL xs
end
theorem datL_map : ∀ xs : List Val, datL xs = xs.map dat
  | [] => rfl
  | x :: xs => by simp only [datL, List.map_cons, datL_map xs]
mutual
def pl : Val → Bool
  | .tup xs => plL xs
  | .lst xs => plL xs
  | .dic _ => false
  | .non => true
  | .bl _ => true
  | .int _ => true
  | .str _ => true
def plL : List Val → Bool
  | [] => true
  | x :: xs => pl x && plL xs
end
section
variable {K : PySem.W.Frag} {Z Z' : ZS} {H H' : Hp}
mutual
theorem Rep.dp : ∀ (v : Val) {w : V}, pl v = true → Rep K Z H v w → Dp K H w (dat v)
  | .non, w, _, r => by simp only [Rep] at r; subst r; simp only [dat]; exact .non
  | .bl b, w, _, r => by simp only [Rep] at r; subst r; simp only [dat]; exact .bl b
  | .int i, w, _, r => by simp only [Rep] at r; subst r; simp only [dat]; exact .int i
  | .str x, w, _, r => by simp only [Rep] at r; subst r; simp only [dat]; exact .str x
  | .tup xs, w, h, r => by
    simp only [Rep] at r
    obtain ⟨a, ws, rfl, n, r⟩ := r
    simp only [dat]
    exact .tup n.sq (RepL.dp xs (by simpa only [pl] using h) r)
  | .lst xs, w, h, r => by
    simp only [Rep] at r
    obtain ⟨a, ws, rfl, n, r⟩ := r
    simp only [dat]
    exact .lst n.sq (RepL.dp xs (by simpa only [pl] using h) r)
  | .dic _, _, h, _ => by simp [pl] at h
theorem RepL.dp : ∀ (xs : List Val) {ws : List V}, plL xs = true → RepL K Z H xs ws → DpAll K H ws (datL xs)
  | [], ws, _, r => by simp only [RepL] at r; subst r; simp only [datL]; exact .nil
  | x :: xs, ws, h, r => by
    simp only [RepL] at r
    obtain ⟨w, q, rfl, r1, r2⟩ := r
    simp only [plL, Bool.and_eq_true] at h
    simp only [datL]
    exact .cons (Rep.dp x h.1 r1) (RepL.dp xs h.2 r2)
end
theorem RepT.dp {v : Val} {w : V} (h : pl v = true) (r : RepT K Z H v w) : Dp K H w (dat v) := by
  rcases r with r | ⟨a, rfl, t⟩
  · exact r.dp v h
  · cases v with
    | lst xs =>
      obtain ⟨ws, e, r⟩ := (show ∃ ws, LAt H a ws ∧ RepL K Z H xs ws from t)
      simp only [dat]
      exact .lst (.inl (.inl e.1)) (RepL.dp xs (by simpa only [pl] using h) r)
    | dic _ => simp [pl] at h
    | _ => exact False.elim t
end
/-- a value that == reads: no dict within, its texts and depth as they are wanted -/
def Good (v : Val) : Prop := pl v = true ∧ SeqAt.shaped (dat v) = true
def veq (v u : Val) : Bool := PyData.eqv (dat v) (dat u)

section
variable {X : Cx} {a b c e : Expr} {es rest : List Expr} {env env1 env2 env3 : En} {oa ob oc : Opd} {v va vb vc : Val} {pos pos' : Pos} {xs ys : List Val} {i j : Int} {p q r : Bool}

/-! ### argument lists, displays -/
theorem ea_nil : EvA X [] env [] env := fun Z H σ Q hH k => wp_pa pa_nil (k Z H [] (Stp.refl ..) hH rfl)
theorem ea_cons {os : List Opd} (ha : Ev X e env oa env1) (hr : EvA X es env1 os env2) (hs : starEach (e :: es) X.env = (false, eval e X.env) :: starEach es X.env := by rfl) : EvA X (e :: es) env (oa :: os) env2 := fun Z H σ Q hH k => by
  refine wp_pa (pa_cons (pe_wp e) (pa_wp es) hs) ?_
  refine ha Z H σ _ hH fun Z1 H1 w1 s1 h1 r1 => ?_
  exact hr Z1 H1 σ _ h1 fun Z2 H2 ws s2 h2 r2 => k Z2 H2 (w1 :: ws) (s1.trans s2) h2 ⟨w1, ws, rfl, r1.st h1 s2, r2⟩
theorem repOs_vals {K : PySem.W.Frag} {Z : ZS} {H : Hp} {σ : Stt} : ∀ {xs : List Val} {ws : List V}, RepOs K Z H σ (xs.map Opd.val) ws → RepL K Z H xs ws
  | [], ws, h => by have h' : ws = [] := h; subst h'; exact RepL.nil
  | x :: xs, ws, h => by
    obtain ⟨w, r, rfl, h1, h2⟩ := h
    exact RepL.cons h1 (repOs_vals h2)
theorem ev_tup {k : Nat} (hz : xs.length ≤ sizeLine) (ha : EvA X es env (xs.map Opd.val) env1) : Ev X (.Tuple es k pos) env (.val (.tup xs)) env1 := fun Z H σ Q hH kk => by
  refine wp_pe (pe_tup (pa_wp es)) ?_
  refine ha Z H σ _ hH fun Z1 H1 ws s1 h1 r1 => ?_
  have r2 := repOs_vals r1
  have hz' : ws.length ≤ sizeLine := by rw [← r2.length]; exact hz
  refine ⟨hz', fun pa np => ?_⟩
  obtain ⟨h2, s2⟩ := h1.newZ (o := .tup ws) np
  refine kk _ _ _ (s1.trans s2) h2 ?_
  show Rep _ _ _ _ _
  simp only [Rep]
  exact ⟨pa, ws, rfl, .inl ⟨.inr rfl, upd_same, hz'⟩, RepL.st s2.zm (h1.zk s2) _ r2⟩
theorem en_lst (hz : xs.length ≤ sizeLine) (ha : EvA X es env (xs.map Opd.val) env1) : EvN X (.List es pos) env (.lst xs) env1 := fun Z H σ Q hH kk => by
  refine wp_pe (pe_lst (pa_wp es)) ?_
  refine ha Z H σ _ hH fun Z1 H1 ws s1 h1 r1 => ?_
  have r2 := repOs_vals r1
  have hz' : ws.length ≤ sizeLine := by rw [← r2.length]; exact hz
  refine ⟨hz', fun pa np => ?_⟩
  obtain ⟨h2, s2, nz, no⟩ := h1.newO (o := .lst ws) np
  exact kk _ _ _ (s1.trans s2) h2 ⟨ws, ⟨upd_same, hz'⟩, RepL.st s2.zm (h1.zk s2) _ r2⟩ nz no (s1.back np)

/-! ### calls of what is built in -/
def Cal (K : PySem.W.Frag) (r : List V → Hp → VK → Prop) (env : En) (os : List Opd) (v : Val) : Prop := ∀ (Z : ZS) (H : Hp) (σ : Stt) (Q : VK) (ws : List V), Hld K Z H σ env → RepOs K Z H σ os ws →
  (∀ Z' H' w, Stp Z H (Own env σ) Z' H' (Own env σ) → Hld K Z' H' σ env → Rep K Z' H' v w → Q w H') → r ws H Q
def CalN (K : PySem.W.Frag) (r : List V → Hp → VK → Prop) (env : En) (os : List Opd) (v : Val) : Prop := ∀ (Z : ZS) (H : Hp) (σ : Stt) (Q : VK) (ws : List V), Hld K Z H σ env → RepOs K Z H σ os ws →
  (∀ Z' H' p, Stp Z H (Own env σ) Z' H' (Own env σ) → Hld K Z' H' σ env → Top K Z' H' v p → ¬ Z' p → ¬ Own env σ p → H p = none → Q (.ref p) H') → r ws H Q
variable {os : List Opd}
theorem ev_cal {r : List V → Hp → VK → Prop} (p : PE X e (tCB r (wpA X es))) (ha : EvA X es env os env1) (hr : Cal X.K r env1 os v) : Ev X e env (.val v) env1 := fun Z H σ Q hH k => by
  refine wp_pe p ?_
  refine ha Z H σ _ hH fun Z1 H1 ws s1 h1 r1 => ?_
  exact hr Z1 H1 σ Q ws h1 r1 fun Z2 H2 w s2 h2 r2 => k Z2 H2 w (s1.trans s2) h2 r2
theorem en_cal {r : List V → Hp → VK → Prop} (p : PE X e (tCB r (wpA X es))) (ha : EvA X es env os env1) (hr : CalN X.K r env1 os v) : EvN X e env v env1 := fun Z H σ Q hH k => by
  refine wp_pe p ?_
  refine ha Z H σ _ hH fun Z1 H1 ws s1 h1 r1 => ?_
  exact hr Z1 H1 σ Q ws h1 r1 fun Z2 H2 p s2 h2 t nz no fr => k Z2 H2 p (s1.trans s2) h2 t nz no (s1.back fr)
theorem rep1 {K : PySem.W.Frag} {Z : ZS} {H : Hp} {σ : Stt} {o : Opd} {ws : List V} (h : RepOs K Z H σ [o] ws) : ∃ w, ws = [w] ∧ RepO K Z H σ o w := by
  obtain ⟨w, r, e, h1, h2⟩ := h
  have h2' : r = [] := h2
  subst h2'
  exact ⟨w, e, h1⟩
theorem rep2 {K : PySem.W.Frag} {Z : ZS} {H : Hp} {σ : Stt} {o o' : Opd} {ws : List V} (h : RepOs K Z H σ [o, o'] ws) : ∃ w w', ws = [w, w'] ∧ RepO K Z H σ o w ∧ RepO K Z H σ o' w' := by
  obtain ⟨w, r, e, h1, h2⟩ := h
  obtain ⟨w', rfl, h3⟩ := rep1 h2
  exact ⟨w, w', e, h1, h3⟩
section
variable {p' : Pos}
theorem ev_len (hm : X.mg "len" = none) (ha : Ev X a env oa env1) (hc : Cont env1 oa va) (hs : SeqV va xs) (hg : Gl X "len" := by rfl) (hst : starEach [a] X.env = [(false, eval a X.env)] := by rfl) :
    Ev X (.Call (.Name "len" p') [a] [] pos) env (.val (.int xs.length)) env1 :=
  ev_cal (pe_callB call_len_seq hg hm PySem.boot_len (pa_wp _) (by decide) (by decide) (by rw [hst]; rfl) rfl) (ea_cons ha ea_nil (by rw [hst]; rfl)) fun Z H σ Q ws hH rs k => by
    obtain ⟨w, rfl, r⟩ := rep1 rs
    obtain ⟨q, us, rfl, n, r⟩ := (hc.rep hH r).seq hs
    refine ⟨q, us, rfl, n, ?_⟩
    rw [← r.length]
    exact k Z H _ (Stp.refl ..) hH (rep_int _)
theorem ev_int1 (hm : X.mg "int" = none) (ha : Ev X a env (.val (.int i)) env1) (hg : Gl X "int" := by rfl) (hst : starEach [a] X.env = [(false, eval a X.env)] := by rfl) : Ev X (.Call (.Name "int" p') [a] [] pos) env (.val (.int i)) env1 :=
  ev_cal (pe_callTy call_int1 hg hm PyProof.Rows.boot_int (pa_wp _) (by decide) (by decide) (by rw [hst]; rfl) rfl) (ea_cons ha ea_nil (by rw [hst]; rfl)) fun Z H σ Q ws hH rs k => by
    obtain ⟨w, rfl, r⟩ := rep1 rs
    exact .inl ⟨i, by rw [rep_int' (K := X.K) (Z := Z) (H := H) r], k Z H _ (Stp.refl ..) hH (rep_int _)⟩
theorem ev_intb (hm : X.mg "int" = none) (ha : Ev X a env (.val (.bl p)) env1) (hg : Gl X "int" := by rfl) (hst : starEach [a] X.env = [(false, eval a X.env)] := by rfl) : Ev X (.Call (.Name "int" p') [a] [] pos) env (.val (.int (if p then 1 else 0))) env1 :=
  ev_cal (pe_callTy call_int1 hg hm PyProof.Rows.boot_int (pa_wp _) (by decide) (by decide) (by rw [hst]; rfl) rfl) (ea_cons ha ea_nil (by rw [hst]; rfl)) fun Z H σ Q ws hH rs k => by
    obtain ⟨w, rfl, r⟩ := rep1 rs
    exact .inr ⟨p, by rw [rep_bl' (K := X.K) (Z := Z) (H := H) r], k Z H _ (Stp.refl ..) hH (rep_int _)⟩
theorem ev_abs (hm : X.mg "abs" = none) (ha : Ev X a env (.val (.int i)) env1) (hg : Gl X "abs" := by rfl) (hst : starEach [a] X.env = [(false, eval a X.env)] := by rfl) : Ev X (.Call (.Name "abs" p') [a] [] pos) env (.val (.int i.natAbs)) env1 :=
  ev_cal (pe_callB call_abs hg hm (by decide +kernel) (pa_wp _) (by decide) (by decide) (by rw [hst]; rfl) rfl) (ea_cons ha ea_nil (by rw [hst]; rfl)) fun Z H σ Q ws hH rs k => by
    obtain ⟨w, rfl, r⟩ := rep1 rs
    refine ⟨i, by rw [rep_int' (K := X.K) (Z := Z) (H := H) r], ?_⟩
    have e : (if i < 0 then -i else i) = (i.natAbs : Int) := by split <;> omega
    rw [e]
    exact k Z H _ (Stp.refl ..) hH (rep_int _)
theorem ev_max2 (hc : X.calm = true) (hm : X.mg "max" = none) (ha : Ev X a env (.val (.int i)) env1) (hb : Ev X b env1 (.val (.int j)) env2) (hg : Gl X "max" := by rfl) (hst : starEach [a, b] X.env = [(false, eval a X.env), (false, eval b X.env)] := by rfl) (hst2 : starEach [b] X.env = [(false, eval b X.env)] := by rfl) :
    Ev X (.Call (.Name "max" p') [a, b] [] pos) env (.val (.int (max i j))) env2 :=
  ev_cal (pe_callB (call_max2 hc) hg hm (by decide +kernel) (pa_wp _) (by decide) (by decide) (by rw [hst, hst2]) (by rw [hst2]; rfl)) (ea_cons ha (ea_cons hb ea_nil (by rw [hst2]; rfl)) (by rw [hst, hst2])) fun Z H σ Q ws hH rs k => by
    obtain ⟨w, w', rfl, r, r'⟩ := rep2 rs
    refine ⟨i, j, by rw [rep_int' (K := X.K) (Z := Z) (H := H) r, rep_int' (K := X.K) (Z := Z) (H := H) r'], ?_⟩
    have e : (if j > i then j else i) = max i j := by omega
    rw [e]
    exact k Z H _ (Stp.refl ..) hH (rep_int _)
theorem ev_min2 (hc : X.calm = true) (hm : X.mg "min" = none) (ha : Ev X a env (.val (.int i)) env1) (hb : Ev X b env1 (.val (.int j)) env2) (hg : Gl X "min" := by rfl) (hst : starEach [a, b] X.env = [(false, eval a X.env), (false, eval b X.env)] := by rfl) (hst2 : starEach [b] X.env = [(false, eval b X.env)] := by rfl) :
    Ev X (.Call (.Name "min" p') [a, b] [] pos) env (.val (.int (min i j))) env2 :=
  ev_cal (pe_callB (call_min2 hc) hg hm (by decide +kernel) (pa_wp _) (by decide) (by decide) (by rw [hst, hst2]) (by rw [hst2]; rfl)) (ea_cons ha (ea_cons hb ea_nil (by rw [hst2]; rfl)) (by rw [hst, hst2])) fun Z H σ Q ws hH rs k => by
    obtain ⟨w, w', rfl, r, r'⟩ := rep2 rs
    refine ⟨i, j, by rw [rep_int' (K := X.K) (Z := Z) (H := H) r, rep_int' (K := X.K) (Z := Z) (H := H) r'], ?_⟩
    have e : (if j < i then j else i) = min i j := by omega
    rw [e]
    exact k Z H _ (Stp.refl ..) hH (rep_int _)
theorem repL_ints {K : PySem.W.Frag} {Z : ZS} {H : Hp} : ∀ {ns : List Int} {ws : List V}, RepL K Z H (ns.map Val.int) ws → ws = ns.map V.int
  | [], ws, h => by simpa only [List.map_nil, RepL] using h
  | n :: ns, ws, h => by
    simp only [List.map_cons, RepL] at h
    obtain ⟨w, r, rfl, h1, h2⟩ := h
    rw [repL_ints h2, rep_int' h1]; rfl
theorem repL_bls {K : PySem.W.Frag} {Z : ZS} {H : Hp} : ∀ {ns : List Bool} {ws : List V}, RepL K Z H (ns.map Val.bl) ws → ws = ns.map V.bl
  | [], ws, h => by simpa only [List.map_nil, RepL] using h
  | n :: ns, ws, h => by
    simp only [List.map_cons, RepL] at h
    obtain ⟨w, r, rfl, h1, h2⟩ := h
    rw [repL_bls h2, rep_bl' h1]; rfl
theorem RepL.ints {K : PySem.W.Frag} {Z : ZS} {H : Hp} : ∀ (ns : List Int), RepL K Z H (ns.map Val.int) (ns.map V.int)
  | [] => RepL.nil
  | n :: ns => RepL.cons (rep_int n) (RepL.ints ns)
theorem ev_sum (hc : X.calm = true) (hm : X.mg "sum" = none) {ns : List Int} (ha : Ev X a env oa env1) (hC : Cont env1 oa (.lst (ns.map Val.int))) (hg : Gl X "sum" := by rfl) (hst : starEach [a] X.env = [(false, eval a X.env)] := by rfl) :
    Ev X (.Call (.Name "sum" p') [a] [] pos) env (.val (.int ns.sum)) env1 :=
  ev_cal (pe_callB (cr_sum hc) hg hm (by decide +kernel) (pa_wp _) (by decide) (by decide) (by rw [hst]; rfl) rfl) (ea_cons ha ea_nil (by rw [hst]; rfl)) fun Z H σ Q ws hH rs k => by
    obtain ⟨w, rfl, r⟩ := rep1 rs
    obtain ⟨q, us, rfl, n, r⟩ := (hC.rep hH r).lst
    rw [repL_ints r] at n
    exact ⟨q, ns, rfl, n, k Z H _ (Stp.refl ..) hH (rep_int _)⟩
theorem ev_any (hc : X.calm = true) (hm : X.mg "any" = none) {bs : List Bool} (ha : Ev X a env oa env1) (hC : Cont env1 oa (.lst (bs.map Val.bl))) (hg : Gl X "any" := by rfl) (hst : starEach [a] X.env = [(false, eval a X.env)] := by rfl) :
    Ev X (.Call (.Name "any" p') [a] [] pos) env (.val (.bl (bs.any id))) env1 :=
  ev_cal (pe_callB (cr_any hc) hg hm (by decide +kernel) (pa_wp _) (by decide) (by decide) (by rw [hst]; rfl) rfl) (ea_cons ha ea_nil (by rw [hst]; rfl)) fun Z H σ Q ws hH rs k => by
    obtain ⟨w, rfl, r⟩ := rep1 rs
    obtain ⟨q, us, rfl, n, r⟩ := (hC.rep hH r).lst
    rw [repL_bls r] at n
    exact ⟨q, bs, rfl, n, k Z H _ (Stp.refl ..) hH (rep_bl _)⟩
theorem ev_all (hc : X.calm = true) (hm : X.mg "all" = none) {bs : List Bool} (ha : Ev X a env oa env1) (hC : Cont env1 oa (.lst (bs.map Val.bl))) (hg : Gl X "all" := by rfl) (hst : starEach [a] X.env = [(false, eval a X.env)] := by rfl) :
    Ev X (.Call (.Name "all" p') [a] [] pos) env (.val (.bl (bs.all id))) env1 :=
  ev_cal (pe_callB (cr_all hc) hg hm (by decide +kernel) (pa_wp _) (by decide) (by decide) (by rw [hst]; rfl) rfl) (ea_cons ha ea_nil (by rw [hst]; rfl)) fun Z H σ Q ws hH rs k => by
    obtain ⟨w, rfl, r⟩ := rep1 rs
    obtain ⟨q, us, rfl, n, r⟩ := (hC.rep hH r).lst
    rw [repL_bls r] at n
    exact ⟨q, bs, rfl, n, k Z H _ (Stp.refl ..) hH (rep_bl _)⟩
/-- tuple(list) -/
theorem ev_tuple (hm : X.mg "tuple" = none) (ha : Ev X a env oa env1) (hC : Cont env1 oa (.lst xs)) (hg : Gl X "tuple" := by rfl) (hst : starEach [a] X.env = [(false, eval a X.env)] := by rfl) : Ev X (.Call (.Name "tuple" p') [a] [] pos) env (.val (.tup xs)) env1 :=
  ev_cal (pe_callTy call_tuple_of hg hm (by decide +kernel) (pa_wp _) (by decide) (by decide) (by rw [hst]; rfl) rfl) (ea_cons ha ea_nil (by rw [hst]; rfl)) fun Z H σ Q ws hH rs k => by
    obtain ⟨w, rfl, r⟩ := rep1 rs
    have hz := (hC.rep hH r).szL
    obtain ⟨q, us, rfl, n, r⟩ := (hC.rep hH r).lst
    refine ⟨q, us, rfl, .inl ⟨n, fun l hl => ?_⟩⟩
    obtain ⟨h2, s2⟩ := hH.newZ (o := .tup us) hl
    refine k _ _ _ s2 h2 ?_
    simp only [Rep]
    exact ⟨l, us, rfl, .inl ⟨.inr rfl, upd_same, by rw [← r.length]; exact hz⟩, RepL.st s2.zm (hH.zk s2) _ r⟩
/-- tuple(tuple) -/
theorem ev_tupleT (hm : X.mg "tuple" = none) (ha : Ev X a env (.val (.tup xs)) env1) (hg : Gl X "tuple" := by rfl) (hst : starEach [a] X.env = [(false, eval a X.env)] := by rfl) : Ev X (.Call (.Name "tuple" p') [a] [] pos) env (.val (.tup xs)) env1 :=
  ev_cal (pe_callTy call_tuple_of hg hm (by decide +kernel) (pa_wp _) (by decide) (by decide) (by rw [hst]; rfl) rfl) (ea_cons ha ea_nil (by rw [hst]; rfl)) fun Z H σ Q ws hH rs k => by
    obtain ⟨w, rfl, r⟩ := rep1 rs
    obtain ⟨q, us, rfl, n, _⟩ := (show RepT X.K Z H (.tup xs) w from .inl r).tup
    exact ⟨q, us, rfl, .inr ⟨n, k _ _ _ (Stp.refl ..) hH r⟩⟩
/-- list(seq) -/
theorem en_list (hm : X.mg "list" = none) (ha : Ev X a env oa env1) (hC : Cont env1 oa va) (hS : SeqV va xs) (hg : Gl X "list" := by rfl) (hst : starEach [a] X.env = [(false, eval a X.env)] := by rfl) : EvN X (.Call (.Name "list" p') [a] [] pos) env (.lst xs) env1 :=
  en_cal (pe_callTy call_list_of hg hm (by decide +kernel) (pa_wp _) (by decide) (by decide) (by rw [hst]; rfl) rfl) (ea_cons ha ea_nil (by rw [hst]; rfl)) fun Z H σ Q ws hH rs k => by
    obtain ⟨w, rfl, r⟩ := rep1 rs
    have hz := (hC.rep hH r).szS hS
    obtain ⟨q, us, rfl, n, r⟩ := (hC.rep hH r).seq hS
    refine ⟨q, us, rfl, n, fun l hl => ?_⟩
    obtain ⟨h2, s2, nz, no⟩ := hH.newO (o := .lst us) hl
    exact k _ _ _ s2 h2 ⟨us, ⟨upd_same, by rw [← r.length]; exact hz⟩, RepL.st s2.zm (hH.zk s2) _ r⟩ nz no hl
/-- sorted of ints -/
theorem en_sortedI (hm : X.mg "sorted" = none) {ns ms : List Int} (ha : Ev X a env oa env1) (hC : Cont env1 oa (.lst (ns.map Val.int))) (hp : ms.Perm ns) (ho : ms.Pairwise (· ≤ ·)) (hg : Gl X "sorted" := by rfl) (hst : starEach [a] X.env = [(false, eval a X.env)] := by rfl) :
    EvN X (.Call (.Name "sorted" p') [a] [] pos) env (.lst (ms.map Val.int)) env1 :=
  en_cal (pe_callB cr_sortedI hg hm (by decide +kernel) (pa_wp _) (by decide) (by decide) (by rw [hst]; rfl) rfl) (ea_cons ha ea_nil (by rw [hst]; rfl)) fun Z H σ Q ws hH rs k => by
    obtain ⟨w, rfl, r⟩ := rep1 rs
    have hz := (hC.rep hH r).szL
    obtain ⟨q, us, rfl, n, r⟩ := (hC.rep hH r).lst
    rw [repL_ints r] at n
    refine ⟨q, ns, rfl, n, fun ns' l hp' ho' hl => ?_⟩
    have e : ns' = ms := (hp'.trans hp.symm).eq_of_pairwise (fun a b _ _ h1 h2 => Int.le_antisymm h1 h2) ho' ho
    subst e
    obtain ⟨h2, s2, nz, no⟩ := hH.newO (o := .lst (ns'.map V.int)) hl
    exact k _ _ _ s2 h2 ⟨_, ⟨upd_same, by rw [List.length_map, hp'.length_eq]; rw [List.length_map] at hz; exact hz⟩, RepL.ints ns'⟩ nz no hl
/-- isinstance -/
def isTy : Val → String
  | .non => "NoneType" | .bl _ => "bool" | .int _ => "int" | .str _ => "str" | .tup _ => "tuple" | .lst _ => "list" | .dic _ => "dict"
theorem tyX_of {K : PySem.W.Frag} {Z : ZS} {H : Hp} {v : Val} {w : V} (r : Rep K Z H v w) : TyX K H w (.type (isTy v)) := by
  cases v with
  | non => simp only [Rep] at r; subst r; exact .base .non
  | bl b => simp only [Rep] at r; subst r; exact .base (.bl b)
  | int b => simp only [Rep] at r; subst r; exact .base (.int b)
  | str b => simp only [Rep] at r; subst r; exact .base (.str b)
  | tup xs =>
    simp only [Rep] at r
    obtain ⟨a, ws, rfl, n, _⟩ := r
    rcases n with ⟨_, e, _⟩ | ⟨o, its, n, e, c, _⟩
    · exact .base (.tup e)
    · exact .kTuple e c
  | lst xs =>
    simp only [Rep] at r
    obtain ⟨a, ws, rfl, n, _⟩ := r
    rcases n with ⟨_, e | ⟨o, e⟩, _⟩ | ⟨o, its, n, e, c, _⟩
    · exact .base (.lst e)
    · exact .base (.frz e)
    · exact .kList e c
  | dic kvs =>
    simp only [Rep] at r
    obtain ⟨a, ps, rfl, _, n, _⟩ := r
    rcases n with ⟨qs, e, _⟩ | ⟨qs, e, _⟩
    · exact .base (.dK e)
    · exact .base (.dT e)
/-- isinstance(a, T): T a built-in type's name -/
theorem ev_isi {T : String} {x : Str} (hm : X.mg "isinstance" = none) (hmT : X.mg x = none) (hvT : bootBuiltins x = some (.type T)) (hk : kitB (isTy v) T = some p) (ha : Ev X a env (.val v) env1) (hg : Gl X "isinstance" := by rfl) (hgT : Gl X x := by rfl)
    (hst : starEach [a, .Name x pos'] X.env = [(false, eval a X.env), (false, eval (.Name x pos') X.env)] := by rfl) (hnT : x ≠ "__name__" := by decide) (hdT : (x == ("__debug__" : Str)) = false := by decide) : Ev X (.Call (.Name "isinstance" p') [a, .Name x pos'] [] pos) env (.val (.bl p)) env1 := fun Z H σ Q hH k => by
  refine wp_pe (pe_callB call_isi hg hm (by decide +kernel) (pa_cons (pe_wp a) (pa_cons (pe_bltn hgT hmT hvT (v := .ty T) (r := rfl) hnT hdT) pa_nil rfl) (by rw [hst]; rfl)) (by decide) (by decide) (by rw [hst]; rfl) rfl) ?_
  refine ha Z H σ _ hH fun Z1 H1 w1 s1 h1 r1 => ?_
  exact ⟨w1, .ty T, .type (isTy v), .type T, p, rfl, .ty T, tyX_of r1, kit_ty hk, k Z1 H1 (.bl p) s1 h1 (rep_bl (K := X.K) (Z := Z1) (H := H1) p)⟩
end
end
end VL

/-! VL4: subscripts, slices, sums of sequences, comparisons, tests. -/
namespace VL
open PySem PySem.Spec PyProof.Rows L2

section
variable {X : Cx} {a b c e : Expr} {es rest : List Expr} {env env1 env2 env3 : En} {oa ob oc : Opd} {v va vb vc : Val} {pos pos' : Pos} {xs ys : List Val} {i j : Int} {p q r : Bool}
/-! ### a[i] -/
theorem atI_rep {K : PySem.W.Frag} {Z : ZS} {H : Hp} {xs : List Val} {ws : List V} (r : RepL K Z H xs ws) {i : Int} {v : Val} (h : atI xs i = some v) : ∃ w, atI ws i = some w ∧ Rep K Z H v w := by
  unfold atI at h ⊢
  rw [← r.length]
  cases e : ixN xs.length i with
  | none => rw [e] at h; cases h
  | some j =>
    rw [e] at h
    exact r.get h
theorem ev_ix (h : atI xs i = some v) (ha : Ev X a env oa env1) (hb : Ev X b env1 (.val (.int i)) env2) (hc : Cont env2 oa va) (hs : SeqV va xs) (hpl : PlainIx b := by exact fun _ _ => rfl) : Ev X (.Subscript a b pos) env (.val v) env2 := by
  cases hs with
  | tup xs =>
    refine ev_op2 (pe_ix ix_tup (pe_wp a) (pe_wp b) hpl) ha hb fun Z H σ Q x y hH rx ry k => ?_
    obtain ⟨q, us, rfl, n, r⟩ := (hc.rep hH rx).tup
    obtain ⟨w, e, rw'⟩ := atI_rep r h
    exact ⟨q, us, i, w, rfl, rep_int' (K := X.K) (Z := Z) (H := H) ry, n, e, k Z H w (Stp.refl ..) hH rw'⟩
  | lst xs =>
    refine ev_op2 (pe_ix ix_list (pe_wp a) (pe_wp b) hpl) ha hb fun Z H σ Q x y hH rx ry k => ?_
    obtain ⟨q, us, rfl, n, r⟩ := (hc.rep hH rx).lst
    obtain ⟨w, e, rw'⟩ := atI_rep r h
    exact ⟨q, us, i, w, rfl, rep_int' (K := X.K) (Z := Z) (H := H) ry, n, e, k Z H w (Stp.refl ..) hH rw'⟩
/-! ### slices -/
inductive EvP (X : Cx) : Option Expr → En → Option Int → En → Prop
  | none {en : En} : EvP X none en none en
  | some {ex : Expr} {en en1 : En} {n : Int} (h : Ev X ex en (.val (.int n)) en1) : EvP X (some ex) en (some n) en1
def tP (X : Cx) : Option Expr → TO
  | .none => tNoPart
  | .some e => tPart (wpE X e)
theorem po_wp : ∀ lo : Option Expr, PO X lo (tP X lo)
  | .none => po_none
  | .some e => po_some (pe_wp e)
theorem EvP.go {lo : Option Expr} {o : Option Int} (h : EvP X lo env o env1) {Z : ZS} {H : Hp} {σ : Stt} {Q : Option Int → Hp → Prop} (hH : Hld X.K Z H σ env)
    (k : ∀ Z' H', Stp Z H (Own env σ) Z' H' (Own env1 σ) → Hld X.K Z' H' σ env1 → Q o H') : tP X lo σ H Q := by
  cases h with
  | none => exact k Z H (Stp.refl ..) hH
  | some h => exact h Z H σ _ hH fun Z1 H1 w s h1 r => ⟨_, rep_int' (K := X.K) (Z := Z1) (H := H1) r, k Z1 H1 s h1⟩
theorem cut_rep {K : PySem.W.Frag} {Z : ZS} {H : Hp} {xs : List Val} {ws : List V} (r : RepL K Z H xs ws) (lo hi : Option Int) : RepL K Z H ((xs.drop (HT.sIx xs.length 0 lo)).take (HT.sIx xs.length xs.length hi - HT.sIx xs.length 0 lo)) (cutV ws lo hi) := by
  unfold cutV
  rw [← r.length]
  exact RepL.take _ (RepL.drop _ r)
def cutL {α : Type} (xs : List α) (lo hi : Option Int) : List α := (xs.drop (HT.sIx xs.length 0 lo)).take (HT.sIx xs.length xs.length hi - HT.sIx xs.length 0 lo)
theorem cutL_len {α : Type} (xs : List α) (lo hi : Option Int) : (cutL xs lo hi).length ≤ xs.length := by
  unfold cutL
  rw [List.length_take, List.length_drop]
  omega
theorem cutV_len (xs : List V) (lo hi : Option Int) : (cutV xs lo hi).length ≤ xs.length := cutL_len xs lo hi
theorem cutL_map {α β : Type} (f : α → β) (xs : List α) (lo hi : Option Int) : cutL (xs.map f) lo hi = (cutL xs lo hi).map f := by
  unfold cutL
  rw [List.length_map, ← List.map_drop, ← List.map_take]
variable {lo hi : Option Expr} {ol oh : Option Int} {p2 : Pos}
theorem en_slL (ha : Ev X a env oa env1) (hl : EvP X lo env1 ol env2) (hh : EvP X hi env2 oh env3) (hc : Cont env3 oa (.lst xs)) : EvN X (.Subscript a (.Slice lo hi none p2) pos) env (.lst (cutL xs ol oh)) env3 := fun Z H σ Q hH k => by
  refine wp_pe (pe_slice sl_list (pe_wp a) (po_wp lo) (po_wp hi)) ?_
  refine ha Z H σ _ hH fun Z1 H1 w1 s1 h1 r1 => ?_
  refine hl.go h1 fun Z2 H2 s2 h2 => hh.go h2 fun Z3 H3 s3 h3 => ?_
  have hz := (hc.rep h3 ((r1.st h1 s2).st h2 s3)).szL
  obtain ⟨q, us, rfl, n, r⟩ := (hc.rep h3 ((r1.st h1 s2).st h2 s3)).lst
  refine ⟨q, us, rfl, n, fun l hl => ?_⟩
  obtain ⟨h4, s4, nz, no⟩ := h3.newO (o := .lst (cutV us ol oh)) hl
  exact k _ _ _ (((s1.trans s2).trans s3).trans s4) h4 ⟨_, ⟨upd_same, Nat.le_trans (cutV_len us ol oh) (by rw [← r.length]; exact hz)⟩, RepL.st s4.zm (h3.zk s4) _ (cut_rep r ol oh)⟩ nz no (((s1.trans s2).trans s3).back hl)
theorem ev_slT (ha : Ev X a env (.val (.tup xs)) env1) (hl : EvP X lo env1 ol env2) (hh : EvP X hi env2 oh env3) : Ev X (.Subscript a (.Slice lo hi none p2) pos) env (.val (.tup (cutL xs ol oh))) env3 := fun Z H σ Q hH k => by
  refine wp_pe (pe_slice sl_tupA (pe_wp a) (po_wp lo) (po_wp hi)) ?_
  refine ha Z H σ _ hH fun Z1 H1 w1 s1 h1 r1 => ?_
  refine hl.go h1 fun Z2 H2 s2 h2 => hh.go h2 fun Z3 H3 s3 h3 => ?_
  have r1' : Rep X.K Z3 H3 (.tup xs) w1 := (r1.st h1 s2).st h2 s3
  have hz := (show RepT X.K Z3 H3 (.tup xs) w1 from .inl r1').szT
  obtain ⟨q, us, rfl, n, r⟩ := (show RepT X.K Z3 H3 (.tup xs) w1 from .inl r1').tup
  refine ⟨q, us, rfl, n, fun hw => ?_, fun _ l hl => ?_⟩
  · have e : cutL xs ol oh = xs := by
      rw [← r.length] at hw
      unfold cutL
      rw [hw.1, hw.2]
      simp
    exact k _ _ _ ((s1.trans s2).trans s3) h3 (by rw [e]; exact r1')
  · obtain ⟨h4, s4⟩ := h3.newZ (o := .tup (cutV us ol oh)) hl
    refine k _ _ _ (((s1.trans s2).trans s3).trans s4) h4 ?_
    show Rep _ _ _ _ _
    simp only [Rep]
    exact ⟨l, _, rfl, .inl ⟨.inr rfl, upd_same, Nat.le_trans (cutV_len us ol oh) (by rw [← r.length]; exact hz)⟩, RepL.st s4.zm (h3.zk s4) _ (cut_rep r ol oh)⟩
/-- a[::-1] of a list -/
theorem en_revL {k : Nat} {p1 p3 : Pos} (ha : Ev X a env oa env1) (hc : Cont env1 oa (.lst xs)) : EvN X (.Subscript a (.Slice none none (some (.UnaryOp .USub (.Constant (.int 1) k p1) p2)) p3) pos) env (.lst xs.reverse) env1 := fun Z H σ Q hH kk => by
  refine wp_pe (pe_revL (pe_wp a)) ?_
  refine ha Z H σ _ hH fun Z1 H1 w1 s1 h1 r1 => ?_
  have hz := (hc.rep h1 r1).szL
  obtain ⟨q, us, rfl, n, r⟩ := (hc.rep h1 r1).lst
  refine ⟨q, us, rfl, n, fun l hl => ?_⟩
  obtain ⟨h4, s4, nz, no⟩ := h1.newO (o := .lst us.reverse) hl
  exact kk _ _ _ (s1.trans s4) h4 ⟨_, ⟨upd_same, by rw [List.length_reverse, ← r.length]; exact hz⟩, RepL.st s4.zm (h1.zk s4) _ r.reverse⟩ nz no (s1.back hl)
/-! ### sequences put together -/
/-- l + m: what HandS asks is that both stand as lists; the script's list is only read -/
theorem en_cat (hz : xs.length + ys.length ≤ sizeLine) (ha : Ev X a env oa env1) (hb : Ev X b env1 ob env2) (hca : Cont env2 oa (.lst xs)) (hcb : Cont env2 ob (.lst ys))
    (hcat : OpR X (binaryOp .Add) (fun x y H Q => ∃ l b xs zs, x = .ref l ∧ y = .ref b ∧ SqL X.K H l xs ∧ SqL X.K H b zs ∧ xs.length + zs.length ≤ sizeLine ∧ ∀ p, H p = none → Q (.ref p) (upd H p (.lst (xs ++ zs))))) : EvN X (.BinOp a .Add b pos) env (.lst (xs ++ ys)) env2 :=
  ev_binN hcat ha hb fun Z H σ Q x y hH rx ry k => by
    obtain ⟨q, us, rfl, n, r⟩ := (hca.rep hH rx).lst
    obtain ⟨q', us', rfl, n', r'⟩ := (hcb.rep hH ry).lst
    have hz' : us.length + us'.length ≤ sizeLine := by rw [← r.length, ← r'.length]; exact hz
    refine ⟨q, q', us, us', rfl, rfl, n, n', hz', fun l hl => ?_⟩
    obtain ⟨h2, s2, nz, no⟩ := hH.newO (o := .lst (us ++ us')) hl
    exact k _ _ _ s2 h2 ⟨_, ⟨upd_same, by rw [List.length_append]; exact hz'⟩, RepL.st s2.zm (hH.zk s2) _ (r.append r')⟩ nz no hl
theorem ev_catT (hz : xs.length + ys.length ≤ sizeLine) (ha : Ev X a env (.val (.tup xs)) env1) (hb : Ev X b env1 (.val (.tup ys)) env2) : Ev X (.BinOp a .Add b pos) env (.val (.tup (xs ++ ys))) env2 :=
  ev_bin op_catA ha hb fun Z H σ Q x y hH rx ry k => by
    have rx' : Rep X.K Z H (.tup xs) x := rx
    have ry' : Rep X.K Z H (.tup ys) y := ry
    obtain ⟨q, us, rfl, n, r⟩ := (show RepT X.K Z H (.tup xs) x from .inl rx').tup
    obtain ⟨q', us', rfl, n', r'⟩ := (show RepT X.K Z H (.tup ys) y from .inl ry').tup
    have hz' : us.length + us'.length ≤ sizeLine := by rw [← r.length, ← r'.length]; exact hz
    refine ⟨q, q', us, us', rfl, rfl, n, n', hz', fun e => ?_, fun _ e => ?_, fun _ _ l hl => ?_⟩
    · have e' : xs = [] := List.eq_nil_of_length_eq_zero (by rw [r.length, e]; rfl)
      exact k _ _ _ (Stp.refl ..) hH (by rw [e', List.nil_append]; exact ry')
    · have e' : ys = [] := List.eq_nil_of_length_eq_zero (by rw [r'.length, e]; rfl)
      exact k _ _ _ (Stp.refl ..) hH (by rw [e', List.append_nil]; exact rx')
    · obtain ⟨h2, s2⟩ := hH.newZ (o := .tup (us ++ us')) hl
      refine k _ _ _ s2 h2 ?_
      simp only [Rep]
      exact ⟨l, _, rfl, .inl ⟨.inr rfl, upd_same, by rw [List.length_append]; exact hz'⟩, RepL.st s2.zm (hH.zk s2) _ (r.append r')⟩
/-! ### == and in -/
theorem bin_eq {K : PySem.W.Frag} (da : Cont env oa va) (db : Cont env ob vb) (ga : Good va) (gb : Good vb) : Bin K (rEqD K) env oa ob (.bl (veq va vb)) := fun Z H σ Q x y hH rx ry k =>
  ⟨dat va, dat vb, (da.rep hH rx).dp ga.1, (db.rep hH ry).dp gb.1, ga.2, gb.2, k Z H _ (Stp.refl ..) hH (rep_bl _)⟩
theorem bin_ne {K : PySem.W.Frag} (da : Cont env oa va) (db : Cont env ob vb) (ga : Good va) (gb : Good vb) : Bin K (rNeD K) env oa ob (.bl (!veq va vb)) := fun Z H σ Q x y hH rx ry k =>
  ⟨dat va, dat vb, (da.rep hH rx).dp ga.1, (db.rep hH ry).dp gb.1, ga.2, gb.2, k Z H _ (Stp.refl ..) hH (rep_bl _)⟩
def rInS (K : PySem.W.Frag) (neg : Bool) : R2 := fun x y H Q => ∃ d ds, Dp K H x d ∧ (Dp K H y (.list ds) ∨ Dp K H y (.tuple ds)) ∧ SeqAt.shaped d = true ∧ SeqAt.shaped (.list ds) = true ∧ Q (.bl (if neg then !(ds.any fun z => PyData.eqv z d) else ds.any fun z => PyData.eqv z d)) H
theorem op_inS (hu : X.A.units + 65 < cLine) : OpR X (compareOp .In) (rInS X.K false) := by
  intro pins s σ H x y v u Q I rx ry h
  obtain ⟨d, ds, hd, he, sd, se, q⟩ := h
  obtain ⟨as, r1⟩ := Dp.reads I d x v hd rx
  rcases he with he | he
  · obtain ⟨bs, r2⟩ := Dp.reads I (.list ds) y u he ry
    exact SeqAt.in_list_reads r2 r1 (SeqAt.canLay_of_shaped se) (SeqAt.canLay_of_shaped sd) (room_in_shaped sd hu) ⟨.bl _, H, I, rfl, q⟩
  · obtain ⟨bs, r2⟩ := Dp.reads I (.tuple ds) y u he ry
    exact SeqAt.in_tuple_reads r2 r1 (SeqAt.canLay_of_shaped se) (SeqAt.canLay_of_shaped sd) (room_in_shaped sd hu) ⟨.bl _, H, I, rfl, q⟩
theorem op_ninS (hu : X.A.units + 65 < cLine) : OpR X (compareOp .NotIn) (rInS X.K true) := by
  intro pins s σ H x y v u Q I rx ry h
  obtain ⟨d, ds, hd, he, sd, se, q⟩ := h
  obtain ⟨as, r1⟩ := Dp.reads I d x v hd rx
  rcases he with he | he
  · obtain ⟨bs, r2⟩ := Dp.reads I (.list ds) y u he ry
    exact SeqAt.notIn_list_reads r2 r1 (SeqAt.canLay_of_shaped se) (SeqAt.canLay_of_shaped sd) (room_in_shaped sd hu) ⟨.bl _, H, I, rfl, q⟩
  · obtain ⟨bs, r2⟩ := Dp.reads I (.tuple ds) y u he ry
    exact SeqAt.notIn_tuple_reads r2 r1 (SeqAt.canLay_of_shaped se) (SeqAt.canLay_of_shaped sd) (room_in_shaped sd hu) ⟨.bl _, H, I, rfl, q⟩
theorem bin_in {K : PySem.W.Frag} {neg : Bool} (da : Cont env oa va) (db : Cont env ob vb) (hs : SeqV vb xs) (ga : Good va) (gb : Good (.lst xs)) : Bin K (rInS K neg) env oa ob (.bl (if neg then !(xs.any fun z => veq z va) else xs.any fun z => veq z va)) := fun Z H σ Q x y hH rx ry k => by
  have e : (datL xs).any (fun z => PyData.eqv z (dat va)) = xs.any fun z => veq z va := by
    rw [datL_map, List.any_map]; rfl
  refine ⟨dat va, datL xs, (da.rep hH rx).dp ga.1, ?_, ga.2, by have := gb.2; simpa only [dat] using this, ?_⟩
  · cases hs with
    | tup xs => have := (db.rep hH ry).dp (by have := gb.1; simpa only [pl] using this); simp only [dat] at this; exact .inr this
    | lst xs => have := (db.rep hH ry).dp gb.1; simp only [dat] at this; exact .inl this
  · rw [e]; exact k Z H _ (Stp.refl ..) hH (rep_bl _)
theorem ev_eq (hu : X.A.units + 64 < cLine) (ga : Good va) (gb : Good vb) (ha : Ev X a env oa env1) (hb : Ev X b env1 ob env2) (ca : Cont env2 oa va) (cb : Cont env2 ob vb) : Ev X (.Compare a [.Eq] [b] pos) env (.val (.bl (veq va vb))) env2 := ev_cmp (op_eqD hu) (nomark _) ha hb (bin_eq ca cb ga gb)
theorem ev_ne (hu : X.A.units + 64 < cLine) (ga : Good va) (gb : Good vb) (ha : Ev X a env oa env1) (hb : Ev X b env1 ob env2) (ca : Cont env2 oa va) (cb : Cont env2 ob vb) : Ev X (.Compare a [.NotEq] [b] pos) env (.val (.bl (!veq va vb))) env2 := ev_cmp (op_neD hu) (nomark _) ha hb (bin_ne ca cb ga gb)
theorem et_eq (hu : X.A.units + 64 < cLine) (ga : Good va) (gb : Good vb) (ha : Ev X a env oa env1) (hb : Ev X b env1 ob env2) (ca : Cont env2 oa va) (cb : Cont env2 ob vb) : EvT X (.Compare a [.Eq] [b] pos) env (veq va vb) env2 := et_cmp (op_eqD hu) (nomark _) ha hb (bin_eq ca cb ga gb)
theorem et_ne (hu : X.A.units + 64 < cLine) (ga : Good va) (gb : Good vb) (ha : Ev X a env oa env1) (hb : Ev X b env1 ob env2) (ca : Cont env2 oa va) (cb : Cont env2 ob vb) : EvT X (.Compare a [.NotEq] [b] pos) env (!veq va vb) env2 := et_cmp (op_neD hu) (nomark _) ha hb (bin_ne ca cb ga gb)
theorem ev_in (hu : X.A.units + 65 < cLine) (ga : Good va) (gb : Good (.lst xs)) (ha : Ev X a env oa env1) (hb : Ev X b env1 ob env2) (ca : Cont env2 oa va) (cb : Cont env2 ob vb) (hs : SeqV vb xs) (hm : behindInMarks .In b = false := by with_unfolding_all rfl) :
    Ev X (.Compare a [.In] [b] pos) env (.val (.bl (xs.any fun z => veq z va))) env2 := ev_cmp (op_inS hu) hm ha hb (bin_in (neg := false) ca cb hs ga gb)
theorem ev_ni (hu : X.A.units + 65 < cLine) (ga : Good va) (gb : Good (.lst xs)) (ha : Ev X a env oa env1) (hb : Ev X b env1 ob env2) (ca : Cont env2 oa va) (cb : Cont env2 ob vb) (hs : SeqV vb xs) (hm : behindInMarks .NotIn b = false := by with_unfolding_all rfl) :
    Ev X (.Compare a [.NotIn] [b] pos) env (.val (.bl (!xs.any fun z => veq z va))) env2 := ev_cmp (op_ninS hu) hm ha hb (bin_in (neg := true) ca cb hs ga gb)
theorem et_in (hu : X.A.units + 65 < cLine) (ga : Good va) (gb : Good (.lst xs)) (ha : Ev X a env oa env1) (hb : Ev X b env1 ob env2) (ca : Cont env2 oa va) (cb : Cont env2 ob vb) (hs : SeqV vb xs) (hm : behindInMarks .In b = false := by with_unfolding_all rfl) :
    EvT X (.Compare a [.In] [b] pos) env (xs.any fun z => veq z va) env2 := et_cmp (op_inS hu) hm ha hb (bin_in (neg := false) ca cb hs ga gb)
theorem et_ni (hu : X.A.units + 65 < cLine) (ga : Good va) (gb : Good (.lst xs)) (ha : Ev X a env oa env1) (hb : Ev X b env1 ob env2) (ca : Cont env2 oa va) (cb : Cont env2 ob vb) (hs : SeqV vb xs) (hm : behindInMarks .NotIn b = false := by with_unfolding_all rfl) :
    EvT X (.Compare a [.NotIn] [b] pos) env (!xs.any fun z => veq z va) env2 := et_cmp (op_ninS hu) hm ha hb (bin_in (neg := true) ca cb hs ga gb)
/-! ### is None -/
def isNon : Val → Bool | .non => true | _ => false
theorem isNon_rep {K : PySem.W.Frag} {Z : ZS} {H : Hp} {w : V} (r : Rep K Z H v w) : decide (w = .non) = isNon v := by
  cases v with
  | non => simp only [Rep] at r; subst r; rfl
  | bl _ => simp only [Rep] at r; subst r; rfl
  | int _ => simp only [Rep] at r; subst r; rfl
  | str _ => simp only [Rep] at r; subst r; rfl
  | tup _ => simp only [Rep] at r; obtain ⟨_, _, rfl, _⟩ := r; rfl
  | lst _ => simp only [Rep] at r; obtain ⟨_, _, rfl, _⟩ := r; rfl
  | dic _ => simp only [Rep] at r; obtain ⟨_, _, rfl, _⟩ := r; rfl
theorem bin_isN {K : PySem.W.Frag} : Bin K (fun x y H Q => y = .non ∧ Q (.bl (decide (x = .non))) H) env (.val v) (.val .non) (.bl (isNon v)) := fun Z H σ Q x y hH rx ry k =>
  ⟨rep_non' (K := K) (Z := Z) (H := H) ry, by rw [isNon_rep (K := K) (Z := Z) (H := H) rx]; exact k Z H _ (Stp.refl ..) hH (rep_bl _)⟩
theorem bin_notN {K : PySem.W.Frag} : Bin K (fun x y H Q => y = .non ∧ Q (.bl (!decide (x = .non))) H) env (.val v) (.val .non) (.bl (!isNon v)) := fun Z H σ Q x y hH rx ry k =>
  ⟨rep_non' (K := K) (Z := Z) (H := H) ry, by rw [isNon_rep (K := K) (Z := Z) (H := H) rx]; exact k Z H _ (Stp.refl ..) hH (rep_bl _)⟩
theorem ev_isN {k : Nat} (ha : Ev X a env (.val v) env1) : Ev X (.Compare a [.Is] [.Constant .none k pos'] pos) env (.val (.bl (isNon v))) env1 := ev_cmp op_isN (nomark _) ha ev_non bin_isN
theorem ev_notN {k : Nat} (ha : Ev X a env (.val v) env1) : Ev X (.Compare a [.IsNot] [.Constant .none k pos'] pos) env (.val (.bl (!isNon v))) env1 := ev_cmp op_notN (nomark _) ha ev_non bin_notN
theorem et_isN {k : Nat} (ha : Ev X a env (.val v) env1) : EvT X (.Compare a [.Is] [.Constant .none k pos'] pos) env (isNon v) env1 := et_cmp op_isN (nomark _) ha ev_non bin_isN
theorem et_notN {k : Nat} (ha : Ev X a env (.val v) env1) : EvT X (.Compare a [.IsNot] [.Constant .none k pos'] pos) env (!isNon v) env1 := et_cmp op_notN (nomark _) ha ev_non bin_notN
/-- is True, of a bool -/
theorem bin_isB {K : PySem.W.Frag} : Bin K rIsB env (.val (.bl p)) (.val (.bl q)) (.bl (p == q)) := fun Z H σ Q x y hH rx ry k =>
  ⟨p, q, rep_bl' (K := K) (Z := Z) (H := H) rx, rep_bl' (K := K) (Z := Z) (H := H) ry, by
    have e : decide (p = q) = (p == q) := by cases p <;> cases q <;> rfl
    rw [e]; exact k Z H _ (Stp.refl ..) hH (rep_bl _)⟩
theorem bin_notB {K : PySem.W.Frag} : Bin K rNotB env (.val (.bl p)) (.val (.bl q)) (.bl (p != q)) := fun Z H σ Q x y hH rx ry k =>
  ⟨p, q, rep_bl' (K := K) (Z := Z) (H := H) rx, rep_bl' (K := K) (Z := Z) (H := H) ry, by
    have e : (!decide (p = q)) = (p != q) := by cases p <;> cases q <;> rfl
    rw [e]; exact k Z H _ (Stp.refl ..) hH (rep_bl _)⟩
theorem ev_isB (ha : Ev X a env (.val (.bl p)) env1) (hb : Ev X b env1 (.val (.bl q)) env2) : Ev X (.Compare a [.Is] [b] pos) env (.val (.bl (p == q))) env2 := ev_cmp op_isBl (nomark _) ha hb bin_isB
theorem ev_notB (ha : Ev X a env (.val (.bl p)) env1) (hb : Ev X b env1 (.val (.bl q)) env2) : Ev X (.Compare a [.IsNot] [b] pos) env (.val (.bl (p != q))) env2 := ev_cmp op_notBl (nomark _) ha hb bin_notB
theorem et_isB (ha : Ev X a env (.val (.bl p)) env1) (hb : Ev X b env1 (.val (.bl q)) env2) : EvT X (.Compare a [.Is] [b] pos) env (p == q) env2 := et_cmp op_isBl (nomark _) ha hb bin_isB
theorem et_notB (ha : Ev X a env (.val (.bl p)) env1) (hb : Ev X b env1 (.val (.bl q)) env2) : EvT X (.Compare a [.IsNot] [b] pos) env (p != q) env2 := et_cmp op_notBl (nomark _) ha hb bin_notB
/-! ### chains of int comparisons -/
theorem ev_chain {op op' : CmpOp} {k : Int} {P P' : Int → Int → Bool} (ho : OpR X (compareOp op) (rI0 fun i j => .bl (P i j))) (ho' : OpR X (compareOp op') (rI0 fun i j => .bl (P' i j))) (ha : Ev X a env (.val (.int i)) env1) (hb : Ev X b env1 (.val (.int j)) env2) (hc : Ev X c env2 (.val (.int k)) env2)
    (hm : lastMarks [op, op'] [b, c] = false := by with_unfolding_all rfl) : Ev X (.Compare a [op, op'] [b, c] pos) env (.val (.bl (P i j && P' j k))) env2 := fun Z H σ Q hH kk => by
  refine wp_pe (pe_chain ho ho' (pe_wp a) (pe_wp b) (pe_wp c) hm) ?_
  refine ha Z H σ _ hH fun Z1 H1 w1 s1 h1 r1 => ?_
  refine hb Z1 H1 σ _ h1 fun Z2 H2 w2 s2 h2 r2 => ?_
  refine ⟨i, j, rep_int' (K := X.K) (Z := Z1) (H := H1) r1, rep_int' (K := X.K) (Z := Z2) (H := H2) r2, P i j, rfl, ?_⟩
  cases e : P i j with
  | false =>
    rw [if_neg (by decide)]
    have q := kk Z2 H2 (.bl false) (s1.trans s2) h2
    rw [e, Bool.false_and] at q
    exact q (rep_bl (K := X.K) (Z := Z2) (H := H2) false)
  | true =>
    rw [if_pos rfl]
    refine hc Z2 H2 σ _ h2 fun Z3 H3 w3 s3 h3 r3 => ?_
    refine ⟨j, k, rep_int' (K := X.K) (Z := Z2) (H := H2) r2, rep_int' (K := X.K) (Z := Z3) (H := H3) r3, ?_⟩
    have q := kk Z3 H3 (.bl (P' j k)) ((s1.trans s2).trans s3) h3
    rw [e, Bool.true_and] at q
    exact q (rep_bl (K := X.K) (Z := Z3) (H := H3) _)
/-! ### tests -/
/-- any expression that is a bool -/
theorem et_val (ha : Ev X a env (.val (.bl p)) env1) (he : ∀ whole, isTrue a X.env whole = (do let v ← whole; standAt a.pos; holding [v] (truthy v)) := by intro _; rfl) : EvT X a env p env1 := fun Z H σ Q hH k => by
  refine wp_pt (pt_val (pe_wp a) he) ?_
  exact ha Z H σ _ hH fun Z1 H1 w s h1 r => ⟨p, rep_bl' (K := X.K) (Z := Z1) (H := H1) r, k Z1 H1 s h1⟩
theorem et_chain {op op' : CmpOp} {k : Int} {P P' : Int → Int → Bool} (ho : OpR X (compareOp op) (rI0 fun i j => .bl (P i j))) (ho' : OpR X (compareOp op') (rI0 fun i j => .bl (P' i j))) (ha : Ev X a env (.val (.int i)) env1) (hb : Ev X b env1 (.val (.int j)) env2) (hc : Ev X c env2 (.val (.int k)) env2)
    (hm : lastMarks [op, op'] [b, c] = false := by with_unfolding_all rfl) : EvT X (.Compare a [op, op'] [b, c] pos) env (P i j && P' j k) env2 := fun Z H σ Q hH kk => by
  refine wp_pt (pt_chain ho ho' (pe_wp a) (pe_wp b) (pe_wp c) hm) ?_
  refine ha Z H σ _ hH fun Z1 H1 w1 s1 h1 r1 => ?_
  refine hb Z1 H1 σ _ h1 fun Z2 H2 w2 s2 h2 r2 => ?_
  refine ⟨i, j, rep_int' (K := X.K) (Z := Z1) (H := H1) r1, rep_int' (K := X.K) (Z := Z2) (H := H2) r2, P i j, rfl, ?_⟩
  cases e : P i j with
  | false =>
    rw [if_neg (by decide)]
    have q := kk Z2 H2 (s1.trans s2) h2
    rw [e, Bool.false_and] at q
    exact ⟨false, rfl, q⟩
  | true =>
    rw [if_pos rfl]
    refine hc Z2 H2 σ _ h2 fun Z3 H3 w3 s3 h3 r3 => ?_
    refine ⟨j, k, rep_int' (K := X.K) (Z := Z2) (H := H2) r2, rep_int' (K := X.K) (Z := Z3) (H := H3) r3, ?_⟩
    have q := kk Z3 H3 ((s1.trans s2).trans s3) h3
    rw [e, Bool.true_and] at q
    exact ⟨_, rfl, q⟩
theorem et_not (ha : EvT X a env p env1) : EvT X (.UnaryOp .Not a pos) env (!p) env1 := fun Z H σ Q hH k => by
  refine wp_pt (pt_not (pt_wp a)) ?_
  exact ha Z H σ _ hH fun Z1 H1 s h1 => k Z1 H1 s h1
theorem ev_not (ha : Ev X a env (.val (.bl p)) env1) : Ev X (.UnaryOp .Not a pos) env (.val (.bl (!p))) env1 := fun Z H σ Q hH k => by
  refine wp_pe (pe_not (pe_wp a)) ?_
  exact ha Z H σ _ hH fun Z1 H1 w s h1 r => ⟨p, rep_bl' (K := X.K) (Z := Z1) (H := H1) r, k Z1 H1 _ s h1 (rep_bl (K := X.K) (Z := Z1) (H := H1) _)⟩
/-- the tail of an and, an or, as a test -/
def wpW (X : Cx) (e : Expr) : TT := fun σ H Q => ∀ whole pins s, Inv X pins σ H s → wpAny (model X.prog X.w) X.A (isTrue e X.env whole) (TP X pins σ Q) X.xe s
theorem pw_wp (e : Expr) : PW X e (wpW X e) := ⟨fun whole pins s σ H Q I h => h whole pins s I⟩
theorem wp_pw {t : TT} {σ : Stt} {H : Hp} {Q : Bool → Hp → Prop} (p : PW X e t) (h : t σ H Q) : wpW X e σ H Q := fun whole pins s I => p.run whole pins s σ H Q I h
def EvW (X : Cx) (e : Expr) (env : En) (b : Bool) (env' : En) : Prop := ∀ (Z : ZS) (H : Hp) (σ : Stt) (Q : Bool → Hp → Prop), Hld X.K Z H σ env →
  (∀ Z' H', Stp Z H (Own env σ) Z' H' (Own env' σ) → Hld X.K Z' H' σ env' → Q b H') → wpW X e σ H Q
theorem EvW.t (h : EvW X e env p env1) : EvT X e env p env1 := fun Z H σ Q hH k pins s I => h Z H σ Q hH k _ pins s I
theorem ew_and1 (ha : EvT X a env p env1) : EvW X (.BoolOp .And [a] pos) env p env1 := fun Z H σ Q hH k => wp_pw (pw_and1 (pt_wp a)) (ha Z H σ Q hH k)
theorem ew_or1 (ha : EvT X a env p env1) : EvW X (.BoolOp .Or [a] pos) env p env1 := fun Z H σ Q hH k => wp_pw (pw_or1 (pt_wp a)) (ha Z H σ Q hH k)
theorem ew_andG (ha : EvT X a env p env1) (h1 : p = true → EvW X (.BoolOp .And (b :: rest) pos) env1 r env2) (h0 : p = false → r = false ∧ env2 = env1) : EvW X (.BoolOp .And (a :: b :: rest) pos) env r env2 := fun Z H σ Q hH k => by
  refine wp_pw (pw_and (pt_wp a) (pw_wp _)) ?_
  refine ha Z H σ _ hH fun Z1 H1 s hh => ?_
  cases p with
  | true => exact h1 rfl Z1 H1 σ Q hh fun Z2 H2 s2 h2 => k Z2 H2 (s.trans s2) h2
  | false =>
    obtain ⟨rfl, rfl⟩ := h0 rfl
    exact k Z1 H1 s hh
theorem ew_orG (ha : EvT X a env p env1) (h1 : p = false → EvW X (.BoolOp .Or (b :: rest) pos) env1 r env2) (h0 : p = true → r = true ∧ env2 = env1) : EvW X (.BoolOp .Or (a :: b :: rest) pos) env r env2 := fun Z H σ Q hH k => by
  refine wp_pw (pw_or (pt_wp a) (pw_wp _)) ?_
  refine ha Z H σ _ hH fun Z1 H1 s hh => ?_
  cases p with
  | false => exact h1 rfl Z1 H1 σ Q hh fun Z2 H2 s2 h2 => k Z2 H2 (s.trans s2) h2
  | true =>
    obtain ⟨rfl, rfl⟩ := h0 rfl
    exact k Z1 H1 s hh
/-- .. where the tail changes nothing of one's own -/
theorem ew_and (ha : EvT X a env p env1) (hb : p = true → EvW X (.BoolOp .And (b :: rest) pos) env1 q env1) : EvW X (.BoolOp .And (a :: b :: rest) pos) env (p && q) env1 :=
  ew_andG ha (fun e => by subst e; exact hb rfl) fun e => by subst e; exact ⟨rfl, rfl⟩
theorem ew_or (ha : EvT X a env p env1) (hb : p = false → EvW X (.BoolOp .Or (b :: rest) pos) env1 q env1) : EvW X (.BoolOp .Or (a :: b :: rest) pos) env (p || q) env1 :=
  ew_orG ha (fun e => by subst e; exact hb rfl) fun e => by subst e; exact ⟨rfl, rfl⟩
/-- .. as values -/
theorem ev_bo1 {op} (ha : Ev X a env oa env1) : Ev X (.BoolOp op [a] pos) env oa env1 := fun Z H σ Q hH k => wp_pe (pe_one (pe_wp a)) (ha Z H σ Q hH k)
theorem ev_andG (ha : Ev X a env (.val (.bl p)) env1) (h1 : p = true → Ev X (.BoolOp .And (b :: rest) pos) env1 (.val (.bl r)) env2) (h0 : p = false → r = false ∧ env2 = env1) : Ev X (.BoolOp .And (a :: b :: rest) pos) env (.val (.bl r)) env2 := fun Z H σ Q hH k => by
  refine wp_pe (pe_and (pe_wp a) (pe_wp _)) ?_
  refine ha Z H σ _ hH fun Z1 H1 w s hh rr => ⟨p, rep_bl' (K := X.K) (Z := Z1) (H := H1) rr, ?_⟩
  cases p with
  | true => exact h1 rfl Z1 H1 σ Q hh fun Z2 H2 w2 s2 h2 r2 => k Z2 H2 w2 (s.trans s2) h2 r2
  | false =>
    obtain ⟨rfl, rfl⟩ := h0 rfl
    exact k Z1 H1 _ s hh (rep_bl (K := X.K) (Z := Z1) (H := H1) _)
theorem ev_orG (ha : Ev X a env (.val (.bl p)) env1) (h1 : p = false → Ev X (.BoolOp .Or (b :: rest) pos) env1 (.val (.bl r)) env2) (h0 : p = true → r = true ∧ env2 = env1) : Ev X (.BoolOp .Or (a :: b :: rest) pos) env (.val (.bl r)) env2 := fun Z H σ Q hH k => by
  refine wp_pe (pe_or (pe_wp a) (pe_wp _)) ?_
  refine ha Z H σ _ hH fun Z1 H1 w s hh rr => ⟨p, rep_bl' (K := X.K) (Z := Z1) (H := H1) rr, ?_⟩
  cases p with
  | false => exact h1 rfl Z1 H1 σ Q hh fun Z2 H2 w2 s2 h2 r2 => k Z2 H2 w2 (s.trans s2) h2 r2
  | true =>
    obtain ⟨rfl, rfl⟩ := h0 rfl
    exact k Z1 H1 _ s hh (rep_bl (K := X.K) (Z := Z1) (H := H1) _)
theorem ev_and (ha : Ev X a env (.val (.bl p)) env1) (hb : p = true → Ev X (.BoolOp .And (b :: rest) pos) env1 (.val (.bl q)) env1) : Ev X (.BoolOp .And (a :: b :: rest) pos) env (.val (.bl (p && q))) env1 :=
  ev_andG ha (fun e => by subst e; exact hb rfl) fun e => by subst e; exact ⟨rfl, rfl⟩
theorem ev_or (ha : Ev X a env (.val (.bl p)) env1) (hb : p = false → Ev X (.BoolOp .Or (b :: rest) pos) env1 (.val (.bl q)) env1) : Ev X (.BoolOp .Or (a :: b :: rest) pos) env (.val (.bl (p || q))) env1 :=
  ev_orG ha (fun e => by subst e; exact hb rfl) fun e => by subst e; exact ⟨rfl, rfl⟩
/-- a if c else b -/
theorem ev_ifG {o : Opd} (hc : EvT X c env p env1) (h1 : p = true → Ev X a env1 o env2) (h0 : p = false → Ev X b env1 o env2) : Ev X (.IfExp c a b pos) env o env2 := fun Z H σ Q hH k => by
  refine wp_pe (pe_ifExp (pt_wp c) (pe_wp a) (pe_wp b)) ?_
  refine hc Z H σ _ hH fun Z1 H1 s hh => ?_
  cases p with
  | true => exact h1 rfl Z1 H1 σ Q hh fun Z2 H2 w2 s2 h2 r2 => k Z2 H2 w2 (s.trans s2) h2 r2
  | false => exact h0 rfl Z1 H1 σ Q hh fun Z2 H2 w2 s2 h2 r2 => k Z2 H2 w2 (s.trans s2) h2 r2
end
end VL

/-! VL5: statements. -/
namespace VL
open PySem PySem.Spec PyProof.Rows L2

/-! ### by readings -/
def EvR (K : PySem.W.Frag) (t : TE) (env : En) (o : Opd) (env' : En) : Prop := ∀ (Z : ZS) (H : Hp) (σ : Stt) (Q : VK), Hld K Z H σ env →
  (∀ Z' H' w, Stp Z H (Own env σ) Z' H' (Own env' σ) → Hld K Z' H' σ env' → RepO K Z' H' σ o w → Q w H') → t σ H Q
def EvNR (K : PySem.W.Frag) (t : TE) (env : En) (v : Val) (env' : En) : Prop := ∀ (Z : ZS) (H : Hp) (σ : Stt) (Q : VK), Hld K Z H σ env →
  (∀ Z' H' a, Stp Z H (Own env σ) Z' H' (Own env' σ) → Hld K Z' H' σ env' → Top K Z' H' v a → ¬ Z' a → ¬ Own env' σ a → H a = none → Q (.ref a) H') → t σ H Q
theorem Ev.r {X : Cx} {e : Expr} {env env' : En} {o : Opd} (h : Ev X e env o env') : EvR X.K (wpE X e) env o env' := h
theorem EvN.r {X : Cx} {e : Expr} {env env' : En} {v : Val} (h : EvN X e env v env') : EvNR X.K (wpE X e) env v env' := h
theorem EvR.ev {X : Cx} {e : Expr} {t : TE} {env env' : En} {o : Opd} (p : PE X e t) (h : EvR X.K t env o env') : Ev X e env o env' := fun Z H σ Q hH k => wp_pe p (h Z H σ Q hH k)
theorem EvNR.ev {X : Cx} {e : Expr} {t : TE} {env env' : En} {v : Val} (p : PE X e t) (h : EvNR X.K t env v env') : EvN X e env v env' := fun Z H σ Q hH k => wp_pe p (h Z H σ Q hH k)
theorem EvNR.frz {K : PySem.W.Frag} {t : TE} {env env1 : En} {v : Val} (h : EvNR K t env v env1) : EvR K t env (.val v) env1 := fun Z H σ Q hH k => by
  refine h Z H σ Q hH fun Z1 H1 p s h1 t nz no fr => ?_
  obtain ⟨o, e⟩ := t.there
  refine k (fun a => Z1 a ∨ a = p) H1 _ ⟨s.keep, fun a z => .inl (s.zm a z), fun a z => ?_, s.on, s.dom⟩ (h1.free e no) ?_
  · rcases z with z | rfl
    · exact s.zn a z
    · exact .inr (.inr fr)
  · exact Top.frz (.inr rfl) (Top.st (fun a z => .inl z) (fun _ _ _ e => e) (fun _ e => e) t)

/-! ### slots stored, forgotten, let go -/
section
variable {K : PySem.W.Frag} {Z Z' : ZS} {H H' : Hp} {σ : Stt} {env env' : En} {v : Val} {w : V} {i : Nat}
theorem get_set_some {α : Type} {l : List α} {i j : Nat} {x y : α} (h : (l.set i x)[j]? = some y) : (j = i ∧ y = x) ∨ (j ≠ i ∧ l[j]? = some y) := by
  by_cases e : i = j
  · subst e
    by_cases hl : i < l.length
    · rw [List.getElem?_set_self hl] at h; exact .inl ⟨rfl, (Option.some.inj h).symm⟩
    · rw [List.getElem?_eq_none (by rw [List.length_set]; omega)] at h; cases h
  · rw [List.getElem?_set_ne e] at h; exact .inr ⟨fun q => e q.symm, h⟩
theorem slOk_ne {j : Nat} {s : Sl} {x : Option V} (ne : j ≠ i) (h : SlOk K Z H σ j s) : SlOk K Z H (σ.set i x) j s := by
  have e : (σ.set i x)[j]? = σ[j]? := List.getElem?_set_ne (fun q => ne q.symm)
  cases s with
  | no => trivial
  | im v => obtain ⟨w, a, b⟩ := (show ∃ w, σ[j]? = some (some w) ∧ Rep K Z H v w from h); exact ⟨w, e.trans a, b⟩
  | ow v => obtain ⟨w, a, b⟩ := (show ∃ a, σ[j]? = some (some (V.ref a)) ∧ Top K Z H v a ∧ ¬ Z a from h); exact ⟨w, e.trans a, b⟩
theorem own_set {x : Option V} {s : Sl} (a : Addr) (o : Own (env.set i s) (σ.set i x) a) (hs : ∀ v, s ≠ .ow v) : Own env σ a := by
  obtain ⟨j, v, e, q⟩ := o
  rcases get_set_some e with ⟨_, e'⟩ | ⟨ne, e'⟩
  · exact absurd e'.symm (hs v)
  · refine ⟨j, v, e', ?_⟩
    rwa [List.getElem?_set_ne (fun q => ne q.symm)] at q
theorem Hld.setI (h : Hld K Z H σ env) (r : Rep K Z H v w) (hi : i < env.length) : Hld K Z H (σ.set i (some w)) (env.set i (.im v)) := by
  refine ⟨fun j s e => ?_, fun j l u u' a e1 e2 q1 q2 => ?_, h.zd, by simp only [List.length_set]; exact h.len⟩
  · rcases get_set_some e with ⟨rfl, rfl⟩ | ⟨ne, e⟩
    · exact ⟨w, List.getElem?_set_self (by rw [← h.len]; exact hi), r⟩
    · exact slOk_ne ne (h.sl j s e)
  · rcases get_set_some e1 with ⟨_, e1⟩ | ⟨n1, e1⟩
    · cases e1
    · rcases get_set_some e2 with ⟨_, e2⟩ | ⟨n2, e2⟩
      · cases e2
      · rw [List.getElem?_set_ne (fun q => n1 q.symm)] at q1
        rw [List.getElem?_set_ne (fun q => n2 q.symm)] at q2
        exact h.inj j l u u' a e1 e2 q1 q2
theorem Hld.setO {a : Addr} (h : Hld K Z H σ env) (t : Top K Z H v a) (nz : ¬ Z a) (no : ¬ Own env σ a) (hi : i < env.length) : Hld K Z H (σ.set i (some (.ref a))) (env.set i (.ow v)) := by
  have key : ∀ j u b, j ≠ i → env[j]? = some (Sl.ow u) → (σ.set i (some (V.ref a)))[j]? = some (some (V.ref b)) → b ≠ a := fun j u b n e q z => by
    rw [List.getElem?_set_ne (fun q => n q.symm)] at q
    subst z
    exact no ⟨j, u, e, q⟩
  have self : (σ.set i (some (V.ref a)))[i]? = some (some (V.ref a)) := List.getElem?_set_self (by rw [← h.len]; exact hi)
  refine ⟨fun j s e => ?_, fun j l u u' b e1 e2 q1 q2 => ?_, h.zd, by simp only [List.length_set]; exact h.len⟩
  · rcases get_set_some e with ⟨rfl, rfl⟩ | ⟨ne, e⟩
    · exact ⟨a, self, t, nz⟩
    · exact slOk_ne ne (h.sl j s e)
  · rcases get_set_some e1 with ⟨i1, f1⟩ | ⟨n1, f1⟩
    · rcases get_set_some e2 with ⟨i2, f2⟩ | ⟨n2, f2⟩
      · rw [i1, i2]
      · rw [i1, self] at q1; cases q1
        exact absurd rfl (key l u' _ n2 f2 q2)
    · rcases get_set_some e2 with ⟨i2, f2⟩ | ⟨n2, f2⟩
      · rw [i2, self] at q2; cases q2
        exact absurd rfl (key j u _ n1 f1 q1)
      · rw [List.getElem?_set_ne (fun q => n1 q.symm)] at q1
        rw [List.getElem?_set_ne (fun q => n2 q.symm)] at q2
        exact h.inj j l u u' b f1 f2 q1 q2
/-- env' knows no more than env -/
inductive Wk : En → En → Prop
  | nil : Wk [] []
  | s {s : Sl} {a b : En} (h : Wk a b) : Wk (s :: a) (s :: b)
  | n {s : Sl} {a b : En} (h : Wk a b) : Wk (s :: a) (.no :: b)
theorem Wk.refl : ∀ e : En, Wk e e
  | [] => .nil
  | _ :: r => .s (Wk.refl r)
theorem Wk.setNo : ∀ (e : En) (j : Nat), Wk e (e.set j .no)
  | [], _ => .nil
  | x :: l, 0 => .n (Wk.refl l)
  | x :: l, j + 1 => .s (Wk.setNo l j)
theorem Wk.get {a b : En} (h : Wk a b) : ∀ {i : Nat} {s : Sl}, b[i]? = some s → s = .no ∨ a[i]? = some s := by
  induction h with
  | nil => intro i s e; simp at e
  | s h ih =>
    intro i s e
    cases i with
    | zero => exact .inr e
    | succ i => exact ih e
  | n h ih =>
    intro i s e
    cases i with
    | zero => exact .inl (Option.some.inj e).symm
    | succ i => exact ih e
theorem Wk.len {a b : En} (h : Wk a b) : a.length = b.length := by
  induction h with
  | nil => rfl
  | s h ih => simp [ih]
  | n h ih => simp [ih]
theorem Wk.own {a b : En} (h : Wk a b) (x : Addr) (o : Own b σ x) : Own a σ x := by
  obtain ⟨i, v, e, q⟩ := o
  rcases h.get e with e | e
  · cases e
  · exact ⟨i, v, e, q⟩
theorem Hld.wk (h : Hld K Z H σ env) (k : Wk env env') : Hld K Z H σ env' := by
  refine ⟨fun j s e => ?_, fun j l u u' b e1 e2 q1 q2 => ?_, h.zd, k.len.symm.trans h.len⟩
  · rcases k.get e with rfl | e
    · trivial
    · exact h.sl j s e
  · rcases k.get e1 with e1 | e1
    · cases e1
    · rcases k.get e2 with e2 | e2
      · cases e2
      · exact h.inj j l u u' b e1 e2 q1 q2
/-- a container of one's own is known from now on -/
theorem Hld.fr (h : Hld K Z H σ env) (e : env[i]? = some (Sl.ow v)) : ∃ Z', Hld K Z' H σ (env.set i (.im v)) ∧ Stp Z H (Own env σ) Z' H (Own (env.set i (.im v)) σ) := by
  obtain ⟨a, s, t, nz⟩ := h.own e
  have hi : i < env.length := (List.getElem?_eq_some_iff.mp e).1
  have os : ∀ b, Own (env.set i (.im v)) σ b → Own env σ b ∧ b ≠ a := fun b ⟨j, u, e1, q⟩ => by
    rcases get_set_some e1 with ⟨_, e1⟩ | ⟨n1, e1⟩
    · cases e1
    · refine ⟨⟨j, u, e1, q⟩, fun z => ?_⟩
      subst z
      exact n1 (h.inj j i u v b e1 e q s)
  refine ⟨fun b => Z b ∨ b = a, ⟨fun j s1 e1 => ?_, fun j l u u' b e1 e2 q1 q2 => ?_, fun b z => ?_, by rw [List.length_set]; exact h.len⟩, ⟨fun _ _ e _ => e, fun b z => .inl z, fun b z => ?_, fun b o => .inl (os b o).1, fun _ o e => ⟨o, e⟩⟩⟩
  · rcases get_set_some e1 with ⟨rfl, rfl⟩ | ⟨ne, e1⟩
    · exact ⟨_, s, Top.frz (.inr rfl) (Top.st (fun a z => .inl z) (fun _ _ _ e => e) (fun _ e => e) t)⟩
    · have q := h.sl j s1 e1
      cases s1 with
      | no => trivial
      | im u =>
        obtain ⟨w, s2, r⟩ := (show ∃ w, σ[j]? = some (some w) ∧ Rep K Z H u w from q)
        exact ⟨w, s2, Rep.st (fun a z => .inl z) (fun _ _ _ e => e) u r⟩
      | ow u =>
        obtain ⟨b, s2, t2, nz2⟩ := (show ∃ a, σ[j]? = some (some (V.ref a)) ∧ Top K Z H u a ∧ ¬ Z a from q)
        refine ⟨b, s2, Top.st (fun a z => .inl z) (fun _ _ _ e => e) (fun _ e => e) t2, fun z => ?_⟩
        rcases z with z | z
        · exact nz2 z
        · subst z
          exact ne (h.inj j i u v b e1 e s2 s)
  · rcases get_set_some e1 with ⟨_, e1⟩ | ⟨n1, e1⟩
    · cases e1
    · rcases get_set_some e2 with ⟨_, e2⟩ | ⟨n2, e2⟩
      · cases e2
      · exact h.inj j l u u' b e1 e2 q1 q2
  · rcases z with z | rfl
    · exact h.zd b z
    · exact t.there
  · rcases z with z | rfl
    · exact .inl z
    · exact .inr (.inl ⟨i, v, e, s⟩)
end

section
variable {X : Cx} {M : List Nat} {st : Stmt} {sts rest body : List Stmt} {a b c e : Expr} {es : List Expr} {env env1 env2 env3 : En} {oa ob oc o : Opd} {v va vb vc : Val} {pos pos' : Pos} {xs ys : List Val} {p q : Bool} {out out1 out2 : Out} {te : TE} {i : Nat}
theorem Fix.refl (σ : Stt) : Fix M σ σ := fun _ _ => rfl
theorem Fix.trans {σ σ1 σ2 : Stt} (a : Fix M σ σ1) (b : Fix M σ1 σ2) : Fix M σ σ2 := fun i h => (b i h).trans (a i h)
theorem Fix.set {σ : Stt} {x : Option V} (h : i ∉ M) : Fix M σ (σ.set i x) := fun j hj => List.getElem?_set_ne fun e => h (by rw [e]; exact hj)
theorem Post.mono {X : Cx} {M : List Nat} {Z Z1 : ZS} {H H1 : Hp} {O O1 : ZS} {σ σ1 : Stt} {D : Ends} {o : Out} (s : Stp Z H O Z1 H1 O1) (f : Fix M σ σ1) (h : Post X M Z H O σ D o) : Post X M Z1 H1 O1 σ1 D o := by
  cases o with
  | nx env => exact fun Z' H' σ' s' h' f' => h Z' H' σ' (s.trans s') h' (f.trans f')
  | bk env => exact fun Z' H' σ' s' h' f' => h Z' H' σ' (s.trans s') h' (f.trans f')
  | ct env => exact fun Z' H' σ' s' h' f' => h Z' H' σ' (s.trans s') h' (f.trans f')
  | rt r env =>
    refine fun Z' H' σ' w s' h' f' r' => h Z' H' σ' w (s.trans s') h' (f.trans f') ?_
    cases r with
    | im v => exact r'
    | ow v => exact r'
/-- forgetting, letting go ahead of statements -/
theorem EvSs.wk (h : EvSs X M sts env1 out) (k : Wk env env1) : EvSs X M sts env out := fun Z H σ D hH P =>
  h Z H σ D (hH.wk k) (P.mono ((Stp.refl Z H (Own env σ)).sub fun a o => k.own a o) (Fix.refl σ))
theorem EvSs.frz (i : Nat) (e : env[i]? = some (Sl.ow v)) (h : EvSs X M sts (env.set i (.im v)) out) : EvSs X M sts env out := fun Z H σ D hH P => by
  obtain ⟨Z', h', s⟩ := hH.fr e
  exact h Z' H σ D h' (P.mono s (Fix.refl σ))
theorem EvS.frz (i : Nat) (e : env[i]? = some (Sl.ow v)) (h : EvS X M st (env.set i (.im v)) out) : EvS X M st env out := fun Z H σ D hH P => by
  obtain ⟨Z', h', s⟩ := hH.fr e
  exact h Z' H σ D h' (P.mono s (Fix.refl σ))
theorem Ev.frz (i : Nat) (q : env[i]? = some (Sl.ow v)) (h : Ev X e (env.set i (.im v)) o env1) : Ev X e env o env1 := fun Z H σ Q hH k => by
  obtain ⟨Z', h', s⟩ := hH.fr q
  exact h Z' H σ Q h' fun Z2 H2 w s2 h2 r => k Z2 H2 w (s.trans s2) h2 r
theorem EvN.frz1 (i : Nat) (q : env[i]? = some (Sl.ow va)) (h : EvN X e (env.set i (.im va)) v env1) : EvN X e env v env1 := fun Z H σ Q hH k => by
  obtain ⟨Z', h', s⟩ := hH.fr q
  exact h Z' H σ Q h' fun Z2 H2 w s2 h2 t nz no fr => k Z2 H2 w (s.trans s2) h2 t nz no fr
/-- forgetting behind -/
theorem EvS.wkN (h : EvS X M st env (.nx env1)) (k : Wk env1 env2) : EvS X M st env (.nx env2) := fun Z H σ D hH P =>
  h Z H σ D hH fun Z' H' σ' s h' f => P Z' H' σ' (s.sub fun a o => k.own a o) (h'.wk k) f
theorem EvSs.wkN (h : EvSs X M sts env (.nx env1)) (k : Wk env1 env2) : EvSs X M sts env (.nx env2) := fun Z H σ D hH P =>
  h Z H σ D hH fun Z' H' σ' s h' f => P Z' H' σ' (s.sub fun a o => k.own a o) (h'.wk k) f
theorem EvSs.wkB (h : EvSs X M sts env (.bk env1)) (k : Wk env1 env2) : EvSs X M sts env (.bk env2) := fun Z H σ D hH P =>
  h Z H σ D hH fun Z' H' σ' s h' f => P Z' H' σ' (s.sub fun a o => k.own a o) (h'.wk k) f
theorem EvSs.wkR {r : Rt} (h : EvSs X M sts env (.rt r env1)) (k : Wk env1 env2) : EvSs X M sts env (.rt r env2) := fun Z H σ D hH P =>
  h Z H σ D hH fun Z' H' σ' w s h' f rr => P Z' H' σ' w (s.sub fun a o => o.elim (fun o => .inl (k.own a o)) .inr) (h'.wk k) f (by
    cases r with
    | im v => exact rr
    | ow v => obtain ⟨a, e, t, nz, no⟩ := rr; exact ⟨a, e, t, nz, fun o => no (k.own a o)⟩)

/-! ### small statements -/
/-- name = a value -/
theorem es_set (pp : PS X st (tAsg te (gName i))) (he : EvR X.K te env (.val v) env1) (hi : i < env1.length) (hM : i ∉ M) : EvS X M st env (.nx (env1.set i (.im v))) := fun Z H σ D hH P => by
  refine wp_ps pp ?_
  refine he Z H σ _ hH fun Z1 H1 w s h1 r => ?_
  exact P Z1 H1 _ (s.sub fun a o => own_set a o fun _ z => nomatch z) (h1.setI r hi) (Fix.set hM)
/-- name = a new container, to be changed -/
theorem es_setN (pp : PS X st (tAsg te (gName i))) (he : EvNR X.K te env v env1) (hi : i < env1.length) (hM : i ∉ M) : EvS X M st env (.nx (env1.set i (.ow v))) := fun Z H σ D hH P => by
  refine wp_ps pp ?_
  refine he Z H σ _ hH fun Z1 H1 p s h1 t nz no fr => ?_
  refine P Z1 H1 _ ⟨s.keep, s.zm, s.zn, fun a o => ?_, s.dom⟩ (h1.setO t nz no hi) (Fix.set hM)
  obtain ⟨j, u, e, q⟩ := o
  rcases get_set_some e with ⟨ij, _⟩ | ⟨ne, e'⟩
  · rw [ij, List.getElem?_set_self (by rw [← h1.len]; exact hi)] at q
    cases q
    exact .inr fr
  · rw [List.getElem?_set_ne (fun q => ne q.symm)] at q
    exact s.on a ⟨j, u, e', q⟩
/-- name = a slot with a container of one's own: it moves -/
theorem es_move {j : Nat} (pp : PS X st (tAsg te (gName i))) (he : EvR X.K te env (.slot j) env1) (hj : env1[j]? = some (Sl.ow v)) (hi : i < env1.length) (hM : i ∉ M) : EvS X M st env (.nx ((env1.set j .no).set i (.ow v))) := fun Z H σ D hH P => by
  refine wp_ps pp ?_
  refine he Z H σ _ hH fun Z1 H1 w s h1 r => ?_
  obtain ⟨a, sj, t, nz⟩ := h1.own hj
  have r' : σ[j]? = some (some w) := r
  rw [sj] at r'; cases r'
  have k : Wk env1 (env1.set j .no) := Wk.setNo env1 j
  have no : ¬ Own (env1.set j .no) σ a := fun ⟨l, u, e, q⟩ => by
    rcases get_set_some e with ⟨_, e⟩ | ⟨ne, e⟩
    · cases e
    · exact ne (h1.inj l j u v a e hj q sj)
  refine P Z1 H1 _ ⟨s.keep, s.zm, s.zn, fun b o => ?_, s.dom⟩ ((h1.wk k).setO t nz no (by rw [List.length_set]; exact hi)) (Fix.set hM)
  obtain ⟨l, u, e, q⟩ := o
  rcases get_set_some e with ⟨ij, _⟩ | ⟨ne, e'⟩
  · rw [ij, List.getElem?_set_self (by rw [← h1.len]; exact hi)] at q
    cases q
    exact s.on a ⟨j, v, hj, sj⟩
  · rw [List.getElem?_set_ne (fun q => ne q.symm)] at q
    exact s.on b (k.own b ⟨l, u, e', q⟩)
theorem es_expr (he : Ev X e env o env1) (hs : swapsWith e none pos.line X.env = pure false := by rfl) : EvS X M (.Expr e pos) env (.nx env1) := fun Z H σ D hH P => by
  refine wp_ps (ps_expr (pe_wp e) hs) ?_
  exact he Z H σ _ hH fun Z1 H1 w s h1 r => P Z1 H1 σ s h1 (Fix.refl σ)
theorem es_pass : EvS X M (.Pass pos) env (.nx env) := fun Z H σ D hH P => wp_ps ps_pass (P Z H σ (Stp.refl ..) hH (Fix.refl σ))
theorem es_break : EvS X M (.Break pos) env (.bk env) := fun Z H σ D hH P => wp_ps ps_break (P Z H σ (Stp.refl ..) hH (Fix.refl σ))
theorem es_cont : EvS X M (.Continue pos) env (.ct env) := fun Z H σ D hH P => wp_ps ps_continue (P Z H σ (Stp.refl ..) hH (Fix.refl σ))
theorem es_ret (he : Ev X e env (.val v) env1) : EvS X M (.Return (some e) pos) env (.rt (.im v) env1) := fun Z H σ D hH P => by
  refine wp_ps (ps_ret (pe_wp e)) ?_
  exact he Z H σ _ hH fun Z1 H1 w s h1 r => P Z1 H1 σ w ⟨s.keep, s.zm, s.zn, (fun a o => by
    rcases o with o | ⟨_, _, o⟩
    · exact s.on a o
    · cases o), s.dom⟩ h1 (Fix.refl σ) r
theorem es_ret0 : EvS X M (.Return none pos) env (.rt (.im .non) env) := fun Z H σ D hH P =>
  wp_ps ps_retN (P Z H σ _ ⟨fun _ _ e _ => e, fun _ z => z, fun _ z => .inl z, (fun a o => by
    rcases o with o | ⟨_, _, o⟩
    · exact .inl o
    · cases o), fun _ o e => ⟨o, e⟩⟩ hH (Fix.refl σ) (show Rep _ _ _ _ _ from rep_non))
theorem es_retN (he : EvN X e env v env1) : EvS X M (.Return (some e) pos) env (.rt (.ow v) env1) := fun Z H σ D hH P => by
  refine wp_ps (ps_ret (pe_wp e)) ?_
  exact he Z H σ _ hH fun Z1 H1 p s h1 t nz no fr => P Z1 H1 σ _ ⟨s.keep, s.zm, s.zn, (fun a o => by
    rcases o with o | ⟨o, _⟩
    · exact s.on a o
    · cases o; exact .inr fr), s.dom⟩ h1 (Fix.refl σ) ⟨p, rfl, t, nz, no⟩
/-- return of a container of one's own in a slot -/
theorem es_retO {j : Nat} (he : Ev X e env (.slot j) env1) (hj : env1[j]? = some (Sl.ow v)) : EvS X M (.Return (some e) pos) env (.rt (.ow v) (env1.set j .no)) := fun Z H σ D hH P => by
  refine wp_ps (ps_ret (pe_wp e)) ?_
  refine he Z H σ _ hH fun Z1 H1 w s h1 r => ?_
  obtain ⟨a, sj, t, nz⟩ := h1.own hj
  have r' : σ[j]? = some (some w) := r
  rw [sj] at r'; cases r'
  have k : Wk env1 (env1.set j .no) := Wk.setNo env1 j
  have no : ¬ Own (env1.set j .no) σ a := fun ⟨l, u, e, q⟩ => by
    rcases get_set_some e with ⟨_, e⟩ | ⟨ne, e⟩
    · cases e
    · exact ne (h1.inj l j u v a e hj q sj)
  exact P Z1 H1 σ _ ⟨s.keep, s.zm, s.zn, (fun b o => by
    rcases o with o | ⟨o, _⟩
    · exact s.on b (k.own b o)
    · cases o; exact s.on a ⟨j, v, hj, sj⟩), s.dom⟩ (h1.wk k) (Fix.refl σ) ⟨a, rfl, t, nz, no⟩
/-- name op= e, of values -/
theorem es_aug {r : R2} (hp : PS X st (tAug i (wpE X e) r)) (hx : env[i]? = some (Sl.im va)) (hx1 : env1[i]? = some (Sl.im va)) (he : Ev X e env ob env1) (hr : Bin X.K r env1 (.val va) ob v) (hM : i ∉ M) : EvS X M st env (.nx (env1.set i (.im v))) := fun Z H σ D hH P => by
  refine wp_ps hp ?_
  obtain ⟨w, sw, rw'⟩ := hH.imm hx
  refine ⟨w, sw, ?_⟩
  refine he Z H σ _ hH fun Z1 H1 y s h1 ry => ?_
  obtain ⟨w', sw', rw2⟩ := h1.imm hx1
  rw [sw] at sw'; cases sw'
  refine hr Z1 H1 σ _ _ y h1 rw2 ry fun Z2 H2 z s2 h2 rz => ?_
  exact P Z2 H2 _ ((s.trans s2).sub fun a o => own_set a o fun _ z => nomatch z) (h2.setI rz (by rw [h2.len, ← h1.len]; exact (List.getElem?_eq_some_iff.mp hx1).1)) (Fix.set hM)
/-! ### blocks, if -/
theorem ess_nil : EvSs X M [] env (.nx env) := fun Z H σ D hH P => wp_pss pss_nil (P Z H σ (Stp.refl ..) hH (Fix.refl σ))
theorem ess_cons (h1 : EvS X M st env (.nx env1)) (h2 : EvSs X M rest env1 out) : EvSs X M (st :: rest) env out := fun Z H σ D hH P => by
  refine wp_pss (pss_cons (ps_wp st) (pss_wp rest)) ?_
  exact h1 Z H σ _ hH fun Z1 H1 σ1 s hh f => h2 Z1 H1 σ1 D hh (P.mono s f)
/-- what leaves the block -/
def Out.leaves : Out → Bool | .nx _ => false | _ => true
theorem Post.ends {Z : ZS} {H : Hp} {O : ZS} {σ : Stt} {D : Ends} {u : Stt → Hp → Prop} (hl : out.leaves = true) (P : Post X M Z H O σ D out) : Post X M Z H O σ { D with nx := u } out := by
  cases out with
  | nx env => cases hl
  | bk env => exact P
  | ct env => exact P
  | rt r env => exact P
theorem ess_last (h1 : EvS X M st env out) (hl : out.leaves = true) : EvSs X M (st :: rest) env out := fun Z H σ D hH P => by
  refine wp_pss (pss_cons (ps_wp st) (pss_wp rest)) ?_
  exact h1 Z H σ _ hH (P.ends hl)
def Then (X : Cx) (M : List Nat) (o : Out) (rest : List Stmt) (out : Out) : Prop := match o with | .nx env => EvSs X M rest env out | o => o = out
theorem Then.go (o : Out) (h : Then X M o rest out) {Z : ZS} {H : Hp} {O : ZS} {σ : Stt} {D : Ends} (P : Post X M Z H O σ D out) : Post X M Z H O σ { D with nx := wpSs X rest D } o := by
  cases o with
  | nx env => exact fun Z' H' σ' s' h' f' => h Z' H' σ' D h' (P.mono s' f')
  | bk env => have e : Out.bk env = out := h; subst e; exact P
  | ct env => have e : Out.ct env = out := h; subst e; exact P
  | rt r env => have e : Out.rt r env = out := h; subst e; exact P
theorem ess_seq (h1 : EvS X M st env out1) (h2 : Then X M out1 rest out) : EvSs X M (st :: rest) env out := fun Z H σ D hH P => by
  refine wp_pss (pss_cons (ps_wp st) (pss_wp rest)) ?_
  exact h1 Z H σ _ hH (h2.go out1 P)
theorem es_if {ts fs : List Stmt} (hc : EvT X c env p env1) (h1 : p = true → EvSs X M ts env1 out) (h0 : p = false → EvSs X M fs env1 out) : EvS X M (.If c ts fs pos) env out := fun Z H σ D hH P => by
  refine wp_ps (ps_if (pt_wp c) (pss_wp ts) (pss_wp fs)) ?_
  refine hc Z H σ _ hH fun Z1 H1 s hh => ?_
  cases p with
  | true => exact h1 rfl Z1 H1 σ D hh (P.mono s (Fix.refl σ))
  | false => exact h0 rfl Z1 H1 σ D hh (P.mono s (Fix.refl σ))
/-- an if and what follows it, each way by itself -/
theorem ess_if {ts fs : List Stmt} (hc : EvT X c env p env1) (h1 : p = true → ∃ o, EvSs X M ts env1 o ∧ Then X M o rest out) (h0 : p = false → ∃ o, EvSs X M fs env1 o ∧ Then X M o rest out) : EvSs X M (.If c ts fs pos :: rest) env out := fun Z H σ D hH P => by
  refine wp_pss (pss_cons (ps_if (pt_wp c) (pss_wp ts) (pss_wp fs)) (pss_wp rest)) ?_
  refine hc Z H σ _ hH fun Z1 H1 s hh => ?_
  have P1 := P.mono s (Fix.refl σ)
  cases p with
  | true =>
    obtain ⟨o, h, t⟩ := h1 rfl
    exact h Z1 H1 σ _ hh (t.go o P1)
  | false =>
    obtain ⟨o, h, t⟩ := h0 rfl
    exact h Z1 H1 σ _ hh (t.go o P1)
end
end VL

/-! VL6: containers of one's own changed. -/
namespace VL
open PySem PySem.Spec PyProof.Rows L2

section
variable {K : PySem.W.Frag} {Z Z' : ZS} {H H' : Hp} {σ : Stt} {env env' : En} {v v' : Val} {w : V} {i : Nat}
/-- what is one's own is changed in place -/
theorem Hld.mut (h : Hld K Z H σ env) (e : env[i]? = some (Sl.ow v)) : ∃ a, σ[i]? = some (some (V.ref a)) ∧ Top K Z H v a ∧ ¬ Z a ∧ (∀ b u, Z b → H b = some u → b ≠ a) ∧
    ∀ (o : HO) (v' : Val), (Top K Z (upd H a o) v' a) → Hld K Z (upd H a o) σ (env.set i (.ow v')) ∧ Stp Z H (Own env σ) Z (upd H a o) (Own (env.set i (.ow v')) σ) := by
  obtain ⟨a, s, t, nz⟩ := h.own e
  have za : ∀ b, Z b → b ≠ a := fun b z q => nz (q ▸ z)
  refine ⟨a, s, t, nz, fun b _ z _ => za b z, fun o v' t' => ?_⟩
  have kz : ∀ b u, Z b → H b = some u → upd H a o b = some u := fun b u z q => by rw [upd_ne (za b z)]; exact q
  have oth : ∀ j u b, j ≠ i → env[j]? = some (Sl.ow u) → σ[j]? = some (some (V.ref b)) → b ≠ a := fun j u b ne e1 q z => ne (h.inj j i u v b e1 e q (by rw [z]; exact s))
  have own : ∀ b, Own (env.set i (.ow v')) σ b → Own env σ b := fun b ⟨j, u, e1, q⟩ => by
    rcases get_set_some e1 with ⟨ij, _⟩ | ⟨ne, e1'⟩
    · rw [ij] at q; exact ⟨i, v, e, q⟩
    · exact ⟨j, u, e1', q⟩
  refine ⟨⟨fun j s1 e1 => ?_, fun j l u u' b e1 e2 q1 q2 => ?_, fun b z => ?_, by rw [List.length_set]; exact h.len⟩, ⟨fun b u q n => ?_, fun _ z => z, fun _ z => .inl z, fun b q => .inl (own b q), fun b u q => ?_⟩⟩
  · rcases get_set_some e1 with ⟨ij, es⟩ | ⟨ne, e1'⟩
    · rw [ij, es]
      exact ⟨a, s, t', nz⟩
    · have q := h.sl j s1 e1'
      cases s1 with
      | no => trivial
      | im u =>
        obtain ⟨w, s2, r⟩ := (show ∃ w, σ[j]? = some (some w) ∧ Rep K Z H u w from q)
        exact ⟨w, s2, Rep.st (fun _ z => z) kz u r⟩
      | ow u =>
        obtain ⟨b, s2, t2, nz2⟩ := (show ∃ a, σ[j]? = some (some (V.ref a)) ∧ Top K Z H u a ∧ ¬ Z a from q)
        exact ⟨b, s2, Top.st (fun _ z => z) kz (fun x q => by rw [upd_ne (oth j u b ne e1' s2)]; exact q) t2, nz2⟩
  · have get : ∀ j u b, (env.set i (Sl.ow v'))[j]? = some (Sl.ow u) → σ[j]? = some (some (V.ref b)) → ∃ u', env[j]? = some (Sl.ow u') := fun j u b e1 q => by
      rcases get_set_some e1 with ⟨ij, _⟩ | ⟨ne, e1'⟩
      · rw [ij]; exact ⟨v, e⟩
      · exact ⟨u, e1'⟩
    obtain ⟨x, e1'⟩ := get j u b e1 q1
    obtain ⟨y, e2'⟩ := get l u' b e2 q2
    exact h.inj j l x y b e1' e2' q1 q2
  · obtain ⟨u, q⟩ := h.zd b z
    exact ⟨u, kz b u z q⟩
  · rw [upd_ne (fun q => n (by rw [q]; exact ⟨i, v, e, s⟩))]; exact q
  · by_cases z : b = a
    · exact ⟨o, by rw [z]; exact upd_same⟩
    · exact ⟨u, by rw [upd_ne z]; exact q⟩
end

section
variable {X : Cx} {M : List Nat} {st : Stmt} {a b c e ob : Expr} {es : List Expr} {env env1 env2 env3 : En} {oo oa oc o : Opd} {v va vb vc : Val} {pos pos' : Pos} {xs ys : List Val} {os : List Opd} {i : Nat} {T : String} {r : V → List V → Hp → VK → Prop}
/-- a method of what is built in, at a slot of one's own: the slot's content becomes v' -/
theorem ev_bmO {v' vr : Val} (p : PE X e (tBM X.K T r (wpE X ob) (wpA X es))) (ho : Ev X ob env (.slot i) env) (ha : EvA X es env os env1) (h0 : env[i]? = some (Sl.ow va)) (h1 : env1[i]? = some (Sl.ow vb))
    (hty : ∀ Z H a, Top X.K Z H va a → tyV X.K T (.ref a) H)
    (hr : ∀ (Z : ZS) (H : Hp) (σ : Stt) (a : Addr) (ws : List V) (Q : VK), Top X.K Z H vb a → RepOs X.K Z H σ os ws → (∀ o w, (∀ Z' H', (∀ b, Z b → Z' b) → (∀ b u, Z b → H b = some u → H' b = some u) → H' a = some o → Top X.K Z' H' v' a ∧ Rep X.K Z' H' vr w) → Q w (upd H a o)) → r (.ref a) ws H Q) :
    Ev X e env (.val vr) (env1.set i (.ow v')) := fun Z H σ Q hH k => by
  refine wp_pe p ?_
  refine ho Z H σ _ hH fun Z1 H1 w s1 h1' r1 => ?_
  obtain ⟨a0, sa, t0, _⟩ := h1'.own h0
  have r1' : σ[i]? = some (some w) := r1
  rw [sa] at r1'; cases r1'
  refine ⟨hty Z1 H1 a0 t0, ?_⟩
  refine ha Z1 H1 σ _ h1' fun Z2 H2 ws s2 h2 r2 => ?_
  obtain ⟨a, sa', t, nz, zk, mt⟩ := h2.mut h1
  rw [sa] at sa'; cases sa'
  refine hr Z2 H2 σ a0 ws Q t r2 fun o w hw => ?_
  have q := hw Z2 (upd H2 a0 o) (fun _ z => z) (fun b u z e => by rw [upd_ne (zk b u z e)]; exact e) upd_same
  obtain ⟨h3, s3⟩ := mt o v' q.1
  exact k Z2 _ w ((s1.trans s2).trans s3) h3 q.2
theorem ev_bmO0 {v' vr : Val} (p : PE X e (tBM0 X.K T r (wpE X ob))) (ho : Ev X ob env (.slot i) env) (h0 : env[i]? = some (Sl.ow va))
    (hty : ∀ Z H a, Top X.K Z H va a → tyV X.K T (.ref a) H)
    (hr : ∀ (Z : ZS) (H : Hp) (a : Addr) (Q : VK), Top X.K Z H va a → (∀ o w, (∀ Z' H', (∀ b, Z b → Z' b) → (∀ b u, Z b → H b = some u → H' b = some u) → H' a = some o → Top X.K Z' H' v' a ∧ Rep X.K Z' H' vr w) → Q w (upd H a o)) → r (.ref a) [] H Q) :
    Ev X e env (.val vr) (env.set i (.ow v')) := fun Z H σ Q hH k => by
  refine wp_pe p ?_
  refine ho Z H σ _ hH fun Z1 H1 w s1 h1' r1 => ?_
  obtain ⟨a, sa, t, nz, zk, mt⟩ := h1'.mut h0
  have r1' : σ[i]? = some (some w) := r1
  rw [sa] at r1'; cases r1'
  refine ⟨hty Z1 H1 a t, ?_⟩
  refine hr Z1 H1 a Q t fun o w hw => ?_
  have q := hw Z1 (upd H1 a o) (fun _ z => z) (fun b u z e => by rw [upd_ne (zk b u z e)]; exact e) upd_same
  obtain ⟨h3, s3⟩ := mt o v' q.1
  exact k Z1 _ w (s1.trans s3) h3 q.2
theorem ty_lst {Z : ZS} {H : Hp} {a : Addr} (t : Top X.K Z H (.lst xs) a) : tyV X.K "list" (.ref a) H := by
  obtain ⟨ws, e, _⟩ := (show ∃ ws, LAt H a ws ∧ RepL X.K Z H xs ws from t)
  exact .inl ⟨rfl, ws, .inl (.inl e.1)⟩
variable {p1 p2 p3 : Pos}
/-- xs.append(e) -/
theorem ev_append (i : Nat) {x : Str} (ho : Ev X (.Name x p1) env (.slot i) env) (h0 : env[i]? = some (Sl.ow (.lst ys))) (ha : Ev X a env (.val v) env1) (h1 : env1[i]? = some (Sl.ow (.lst xs))) (hz : xs.length < sizeLine)
    (p : PE X (.Call (.Attribute (.Name x p1) "append" p2) [a] [] pos) (tBM X.K "list" rAppend (wpE X (.Name x p1)) (wpA X [a])) := by exact pe_bm PySem.F.plainAttrs_list PySem.F.slot_list_append PySem.F.type_list_append mt_append (pe_wp _) (pa_wp _)) (hst : starEach [a] X.env = [(false, eval a X.env)] := by rfl) :
    Ev X (.Call (.Attribute (.Name x p1) "append" p2) [a] [] pos) env (.val .non) (env1.set i (.ow (.lst (xs ++ [v])))) :=
  ev_bmO p ho (ea_cons ha ea_nil (by rw [hst]; rfl)) h0 h1 (fun Z H a t => ty_lst t) fun Z H σ l ws Q t rs k => by
    obtain ⟨us, e, r⟩ := (show ∃ ws, LAt H l ws ∧ RepL X.K Z H xs ws from t)
    obtain ⟨w, rfl, rw'⟩ := rep1 rs
    refine ⟨l, us, w, rfl, rfl, e.1, by rw [← r.length]; exact hz, k _ _ fun Z' H' zm zk e' => ⟨⟨_, ⟨e', by rw [List.length_append, List.length_singleton, ← r.length]; exact hz⟩, RepL.append (RepL.st zm zk _ r) (RepL.one (Rep.st zm zk v rw'))⟩, rep_non⟩⟩
/-- xs.pop() -/
theorem ev_pop (i : Nat) {x : Str} (ho : Ev X (.Name x p1) env (.slot i) env) (h0 : env[i]? = some (Sl.ow (.lst (xs ++ [v]))))
    (p : PE X (.Call (.Attribute (.Name x p1) "pop" p2) [] [] pos) (tBM0 X.K "list" rPop (wpE X (.Name x p1))) := by exact pe_bm0 PySem.F.plainAttrs_list PySem.F.slot_list_pop PySem.F.type_list_pop mt_pop (pe_wp _)) :
    Ev X (.Call (.Attribute (.Name x p1) "pop" p2) [] [] pos) env (.val v) (env.set i (.ow (.lst xs))) :=
  ev_bmO0 p ho h0 (fun Z H a t => ty_lst t) fun Z H l Q t k => by
    obtain ⟨us, e, r⟩ := (show ∃ ws, LAt H l ws ∧ RepL X.K Z H (xs ++ [v]) ws from t)
    have hl := r.length
    rw [List.length_append, List.length_singleton] at hl
    obtain ⟨w, g, rw'⟩ := r.get (i := xs.length) (x := v) (by simp)
    have e2 : us.length - 1 = xs.length := by omega
    refine ⟨l, us, w, rfl, rfl, e.1, by rw [e2]; exact g, k _ _ fun Z' H' zm zk e' => ⟨⟨_, ⟨e', by have := e.2; rw [List.length_dropLast]; omega⟩, ?_⟩, Rep.st zm zk v rw'⟩⟩
    have q := RepL.take xs.length (RepL.st zm zk _ r)
    rw [List.take_left, ← e2, ← List.dropLast_eq_take] at q
    exact q
/-- xs.pop(k) -/
theorem ev_popAt (i : Nat) {x : Str} {k : Int} {j : Nat} (ho : Ev X (.Name x p1) env (.slot i) env) (h0 : env[i]? = some (Sl.ow (.lst ys))) (ha : Ev X a env (.val (.int k)) env1) (h1 : env1[i]? = some (Sl.ow (.lst xs))) (hj : ixN xs.length k = some j) (hv : xs[j]? = some v) (hz : xs.length < 2 ^ 63)
    (p : PE X (.Call (.Attribute (.Name x p1) "pop" p2) [a] [] pos) (tBM X.K "list" rPopAt (wpE X (.Name x p1)) (wpA X [a])) := by exact pe_bm PySem.F.plainAttrs_list PySem.F.slot_list_pop PySem.F.type_list_pop mt_popAt (pe_wp _) (pa_wp _)) (hst : starEach [a] X.env = [(false, eval a X.env)] := by rfl) :
    Ev X (.Call (.Attribute (.Name x p1) "pop" p2) [a] [] pos) env (.val v) (env1.set i (.ow (.lst (xs.eraseIdx j)))) :=
  ev_bmO p ho (ea_cons ha ea_nil (by rw [hst]; rfl)) h0 h1 (fun Z H a t => ty_lst t) fun Z H σ l ws Q t rs kk => by
    obtain ⟨us, e, r⟩ := (show ∃ ws, LAt H l ws ∧ RepL X.K Z H xs ws from t)
    obtain ⟨w, rfl, rw'⟩ := rep1 rs
    obtain ⟨w', g, rv⟩ := r.get hv
    obtain ⟨q1, q2, q3, q4⟩ := ixN_seq hj
    refine ⟨l, us, k, j, w', rfl, by rw [rep_int' (K := X.K) (Z := Z) (H := H) rw'], e.1, by omega, by omega, by rw [← r.length]; exact q1, g, kk _ _ fun Z' H' zm zk e' => ⟨⟨_, ⟨e', Nat.le_trans (List.length_eraseIdx_le _ _) e.2⟩, RepL.eraseIdx j (RepL.st zm zk _ r)⟩, Rep.st zm zk v rv⟩⟩
/-- xs.reverse() -/
theorem ev_reverse (i : Nat) {x : Str} (ho : Ev X (.Name x p1) env (.slot i) env) (h0 : env[i]? = some (Sl.ow (.lst xs)))
    (p : PE X (.Call (.Attribute (.Name x p1) "reverse" p2) [] [] pos) (tBM0 X.K "list" rReverse (wpE X (.Name x p1))) := by exact pe_bm0 PySem.F.plainAttrs_list PySem.F.slot_list_reverse PySem.F.type_list_reverse mt_reverse (pe_wp _)) :
    Ev X (.Call (.Attribute (.Name x p1) "reverse" p2) [] [] pos) env (.val .non) (env.set i (.ow (.lst xs.reverse))) :=
  ev_bmO0 p ho h0 (fun Z H a t => ty_lst t) fun Z H l Q t k => by
    obtain ⟨us, e, r⟩ := (show ∃ ws, LAt H l ws ∧ RepL X.K Z H xs ws from t)
    exact ⟨l, us, rfl, rfl, e.1, k _ _ fun Z' H' zm zk e' => ⟨⟨_, ⟨e', by rw [List.length_reverse]; exact e.2⟩, (RepL.st zm zk _ r).reverse⟩, rep_non⟩⟩
/-- xs[k] = e -/
theorem es_setIx (i : Nat) {k : Int} {j : Nat} (pp : PS X st (tAsg (wpE X e) (gSub (wpE X a) (wpE X b) rSetL))) (he : Ev X e env (.val v) env1) (ho : Ev X a env1 (.slot i) env1) (hb : Ev X b env1 (.val (.int k)) env2) (h1 : env2[i]? = some (Sl.ow (.lst xs))) (hj : ixN xs.length k = some j) :
    EvS X M st env (.nx (env2.set i (.ow (.lst (xs.set j v))))) := fun Z H σ D hH P => by
  refine wp_ps pp ?_
  refine he Z H σ _ hH fun Z1 H1 w s1 hh1 r1 => ?_
  refine ho Z1 H1 σ _ hh1 fun Z2 H2 wo s2 hh2 ro => ?_
  refine hb Z2 H2 σ _ hh2 fun Z3 H3 wb s3 hh3 rb => ?_
  obtain ⟨l, sl, t, nz, zk, mt⟩ := hh3.mut h1
  have ro' : σ[i]? = some (some wo) := ro
  rw [sl] at ro'; cases ro'
  obtain ⟨us, e, r⟩ := (show ∃ ws, LAt H3 l ws ∧ RepL X.K Z3 H3 xs ws from t)
  have r3 : Rep X.K Z3 H3 v w := (r1.st hh1 s2).st hh2 s3
  refine ⟨l, us, k, j, rfl, rep_int' (K := X.K) (Z := Z3) (H := H3) rb, e.1, by rw [← r.length]; exact hj, ?_⟩
  have kz : ∀ b u, Z3 b → H3 b = some u → upd H3 l (.lst (us.set j w)) b = some u := fun b u z q => by rw [upd_ne (zk b u z q)]; exact q
  obtain ⟨h4, s4⟩ := mt (.lst (us.set j w)) (.lst (xs.set j v)) ⟨_, ⟨upd_same, by rw [List.length_set]; exact e.2⟩, RepL.set (Rep.st (fun _ z => z) kz v r3) j (RepL.st (fun _ z => z) kz _ r)⟩
  exact P Z3 _ σ (((s1.trans s2).trans s3).trans s4) h4 (Fix.refl σ)
end

/-! ### targets -/
section
variable {X : Cx} {M : List Nat} {env env1 env2 : En} {v : Val} {pos : Pos} {tg : Expr}
theorem eg_name (i : Nat) (pp : PG X tg (gName i)) (hi : i < env.length) (hM : i ∉ M) : EvG X M tg v env (env.set i (.im v)) := fun Z H σ Q w hH r k => by
  refine wp_pg pp ?_
  exact k Z H _ ((Stp.refl Z H (Own env σ)).sub fun a o => own_set a o fun _ z => nomatch z) (hH.setI r hi) (Fix.set hM)
def wpGs (X : Cx) (ts : List Expr) : TGs := fun vs σ H Q => ∀ pins s us, Inv X pins σ H s → Vals vs us → wpAny (model X.prog X.w) X.A (assignInOrder ((assignEach ts X.env).map (·.2)) us) (fun _ s' => ∃ σ' H', Inv X pins σ' H' s' ∧ Q σ' H') X.xe s
theorem pgs_wp (ts : List Expr) : PGs X ts (wpGs X ts) := ⟨fun pins s σ H vs us Q I r h => h pins s us I r⟩
def EvGs (X : Cx) (M : List Nat) (ts : List Expr) (vs : List Val) (env env' : En) : Prop := ∀ (Z : ZS) (H : Hp) (σ : Stt) (Q : Stt → Hp → Prop) (ws : List V), Hld X.K Z H σ env → RepL X.K Z H vs ws →
  (∀ Z' H' σ', Stp Z H (Own env σ) Z' H' (Own env' σ') → Hld X.K Z' H' σ' env' → Fix M σ σ' → Q σ' H') → wpGs X ts ws σ H Q
theorem egs_nil : EvGs X M [] [] env env := fun Z H σ Q ws hH r k pins s us I rv => by
  simp only [RepL] at r; subst r
  exact pgs_nil.run pins s σ H [] us Q I rv ⟨rfl, k Z H σ (Stp.refl ..) hH (Fix.refl σ)⟩
theorem egs_cons {t : Expr} {ts : List Expr} {vs : List Val} (h1 : EvG X M t v env env1) (h2 : EvGs X M ts vs env1 env2) (hs : (assignEach (t :: ts) X.env).map (·.2) = assign t X.env :: (assignEach ts X.env).map (·.2) := by rfl) : EvGs X M (t :: ts) (v :: vs) env env2 := fun Z H σ Q ws hH r k pins s us I rv => by
  simp only [RepL] at r
  obtain ⟨w, q, rfl, r1, r2⟩ := r
  refine (pgs_cons (pg_wp t) (pgs_wp ts) hs).run pins s σ H _ us Q I rv ⟨w, q, rfl, ?_⟩
  refine h1 Z H σ _ w hH r1 fun Z1 H1 σ1 s1 hh1 f1 => ?_
  exact h2 Z1 H1 σ1 Q q hh1 (RepL.st s1.zm (hH.zk s1) _ r2) fun Z2 H2 σ2 s2 hh2 f2 => k Z2 H2 σ2 (s1.trans s2) hh2 (f1.trans f2)
theorem eg_tup {es : List Expr} {k n : Nat} {vs : List Val} (hc : X.calm = true) (h : EvGs X M es vs env env1) (hn : vs.length = n) (hn2 : (assignEach es X.env).length = n := by rfl) (hst : (assignEach es X.env).findIdx? (·.1) = none := by rfl) : EvG X M (.Tuple es k pos) (.tup vs) env env1 := fun Z H σ Q w hH r kk => by
  refine wp_pg (pg_tup hc (pgs_wp es) hn2 hst) ?_
  obtain ⟨a, ws, rfl, q, r'⟩ := (show RepT X.K Z H (.tup vs) w from .inl r).tup
  exact ⟨a, ws, rfl, q, by rw [← r'.length]; exact hn, h Z H σ Q ws hH r' kk⟩
/-- target = value -/
theorem es_asg {st : Stmt} {te : TE} (pp : PS X st (tAsg te (wpG X tg))) (he : EvR X.K te env (.val v) env1) (hg : EvG X M tg v env1 env2) : EvS X M st env (.nx env2) := fun Z H σ D hH P => by
  refine wp_ps pp ?_
  refine he Z H σ _ hH fun Z1 H1 w s h1 r => ?_
  exact hg Z1 H1 σ _ w h1 r fun Z2 H2 σ2 s2 h2 f2 => P Z2 H2 σ2 (s.trans s2) h2 f2
/-- a, b = x, y: both names local -/
theorem es_par {st : Stmt} {i j : Nat} {es : List Expr} {vb : Val} (pp : PS X st (tPar i j (wpA X es))) (ha : EvA X es env [.val v, .val vb] env1) (hi : i < env1.length) (hj : j < env1.length) (hMi : i ∉ M) (hMj : j ∉ M) : EvS X M st env (.nx ((env1.set i (.im v)).set j (.im vb))) := fun Z H σ D hH P => by
  refine wp_ps pp ?_
  refine ha Z H σ _ hH fun Z1 H1 ws s h1 r => ?_
  obtain ⟨w, w', rfl, r1, r2⟩ := rep2 r
  refine ⟨w, w', rfl, ?_⟩
  have h2 := h1.setI (v := v) (w := w) (i := i) r1 hi
  have h3 := h2.setI (v := vb) (w := w') (i := j) r2 (by rw [List.length_set]; exact hj)
  exact P Z1 H1 _ (s.sub fun a o => own_set a (own_set a o fun _ z => nomatch z) fun _ z => nomatch z) h3 ((Fix.set hMi).trans (Fix.set hMj))
end
end VL

/-! VL7: loops. -/
namespace VL
open PySem PySem.Spec PyProof.Rows L2

/-- what a turn ends with: a state; a state behind a break; a return -/
inductive LO (S : Type) (R : Type) where | nx (s : S) | bk (s : S) | rt (r : R)
def loopL {α S R : Type} (f : S → α → LO S R) : S → List α → S ⊕ R
  | s, [] => .inl s
  | s, x :: xs => match f s x with
    | .nx s' => loopL f s' xs
    | .bk s' => .inl s'
    | .rt r => .inr r
def loopOk {α S R : Type} (f : S → α → LO S R) (ok : S → α → Prop) : S → List α → Prop
  | _, [] => True
  | s, x :: xs => ok s x ∧ match f s x with
    | .nx s' => loopOk f ok s' xs
    | _ => True
def foldOk {α S : Type} (f : S → α → S) (ok : S → α → Prop) : S → List α → Prop
  | _, [] => True
  | s, x :: xs => ok s x ∧ foldOk f ok (f s x) xs
theorem loopL_nx {α S R : Type} (f : S → α → S) : ∀ (s : S) (xs : List α), loopL (R := R) (fun s x => .nx (f s x)) s xs = .inl (xs.foldl f s)
  | s, [] => rfl
  | s, x :: xs => loopL_nx f (f s x) xs
theorem loopOk_nx {α S R : Type} {f : S → α → S} {ok : S → α → Prop} : ∀ {s : S} {xs : List α}, foldOk f ok s xs → loopOk (R := R) (fun s x => .nx (f s x)) ok s xs
  | s, [], _ => trivial
  | s, x :: xs, h => ⟨h.1, loopOk_nx h.2⟩
inductive Lo {S R : Type} (envS : S → En) (outR : R → Out) : Out → LO S R → Prop
  | nx (s : S) : Lo envS outR (.nx (envS s)) (.nx s)
  | bk (s : S) : Lo envS outR (.bk (envS s)) (.bk s)
  | rt (r : R) (h : (outR r).leaves = true) (h2 : ∀ e, outR r ≠ .bk e) (h3 : ∀ e, outR r ≠ .ct e) : Lo envS outR (outR r) (.rt r)
def outL {S R : Type} (envS : S → En) (outR : R → Out) : S ⊕ R → Out
  | .inl s => .nx (envS s)
  | .inr r => outR r

section
variable {X : Cx} {M : List Nat} {body : List Stmt} {tg iter c : Expr} {env env1 : En} {va : Val} {pos : Pos} {xs : List Val} {α S R : Type}
theorem Post.rtD {Z : ZS} {H : Hp} {O : ZS} {σ : Stt} {D : Ends} {n b k : Stt → Hp → Prop} {o : Out} (hl : o.leaves = true) (h2 : ∀ e, o ≠ .bk e) (h3 : ∀ e, o ≠ .ct e) (P : Post X M Z H O σ D o) : Post X M Z H O σ { D with nx := n, ct := k, bk := b } o := by
  cases o with
  | nx e => cases hl
  | bk e => exact absurd rfl (h2 e)
  | ct e => exact absurd rfl (h3 e)
  | rt r e => exact P
/-- for over a list or a tuple that is known -/
theorem es_for {envS : S → En} {outR : R → Out} (f : S → α → LO S R) (ok : S → α → Prop) (enc : α → Val) (l : List α) (s0 : S) (hcalm : X.calm = true) (hp : PassesOwn (model X.prog X.w) X.A X.env X.xe)
    (hi : Ev X iter env (.val va) (envS s0)) (hs : SeqV va (l.map enc)) (hok : loopOk f ok s0 l)
    (hb : ∀ s x, x ∈ l → ok s x → ∃ envt o, EvG X M tg (enc x) (envS s) envt ∧ EvSs X M body envt o ∧ Lo envS outR o (f s x))
    (hf : ∀ x, foldedSetIterable iter X.env x = pure x := by intro _; rfl) : EvS X M (.For tg iter body [] pos) env (outL envS outR (loopL f s0 l)) := fun Z H σ D hH P => by
  -- what holds ahead of a turn
  have Pv_start : ∀ {Z1 H1}, Stp Z H (Own env σ) Z1 H1 (Own (envS s0) σ) → Hld X.K Z1 H1 σ (envS s0) →
      ∃ s Z', loopL f s0 l = loopL f s (l.drop 0) ∧ loopOk f ok s (l.drop 0) ∧ Stp Z H (Own env σ) Z' H1 (Own (envS s) σ) ∧ Hld X.K Z' H1 σ (envS s) ∧ Fix M σ σ ∧ Stp Z1 H1 (Own (envS s0) σ) Z' H1 (Own (envS s) σ) :=
    fun {Z1 H1} s1 h1 => ⟨s0, Z1, rfl, hok, s1, h1, Fix.refl σ, Stp.refl ..⟩
  have turn : ∀ (Z1 : ZS) (H1 : Hp) (ws : List V), Hld X.K Z1 H1 σ (envS s0) → RepL X.K Z1 H1 (l.map enc) ws → ∀ (i : Nat) (x : V) (σ' : Stt) (H' : Hp), ws[i]? = some x →
      (∃ s Z', loopL f s0 l = loopL f s (l.drop i) ∧ loopOk f ok s (l.drop i) ∧ Stp Z H (Own env σ) Z' H' (Own (envS s) σ') ∧ Hld X.K Z' H' σ' (envS s) ∧ Fix M σ σ' ∧ Stp Z1 H1 (Own (envS s0) σ) Z' H' (Own (envS s) σ')) →
      wpG X tg x σ' H' fun σ2 H2 => wpSs X body { D with
        nx := fun σ'' H'' => ∃ s Z', loopL f s0 l = loopL f s (l.drop (i + 1)) ∧ loopOk f ok s (l.drop (i + 1)) ∧ Stp Z H (Own env σ) Z' H'' (Own (envS s) σ'') ∧ Hld X.K Z' H'' σ'' (envS s) ∧ Fix M σ σ'' ∧ Stp Z1 H1 (Own (envS s0) σ) Z' H'' (Own (envS s) σ''),
        ct := fun σ'' H'' => ∃ s Z', loopL f s0 l = loopL f s (l.drop (i + 1)) ∧ loopOk f ok s (l.drop (i + 1)) ∧ Stp Z H (Own env σ) Z' H'' (Own (envS s) σ'') ∧ Hld X.K Z' H'' σ'' (envS s) ∧ Fix M σ σ'' ∧ Stp Z1 H1 (Own (envS s0) σ) Z' H'' (Own (envS s) σ''),
        bk := D.nx } σ2 H2 := by
    intro Z1 H1 ws h1 rw1 i x σ' H' hx ⟨s, Z', e1, e2, st, hh, fx, st1⟩
    obtain ⟨v, hv, _⟩ := rw1.get' hx
    rw [List.getElem?_map] at hv
    obtain ⟨y, hy, rfl⟩ := Option.map_eq_some_iff.mp hv
    have hy' := List.getElem?_eq_some_iff.mp hy
    have ed : l.drop i = y :: l.drop (i + 1) := by rw [List.drop_eq_getElem_cons hy'.1, hy'.2]
    have hmem : y ∈ l := by rw [← hy'.2]; exact List.getElem_mem hy'.1
    rw [ed] at e1 e2
    obtain ⟨w', g, rv⟩ := rw1.get (i := i) (x := enc y) (by rw [List.getElem?_map, hy]; rfl)
    rw [hx] at g; cases g
    obtain ⟨envt, o, hg, hbd, lo⟩ := hb s y hmem e2.1
    have rv' : Rep X.K Z' H' (enc y) x := Rep.st st1.zm (h1.zk st1) _ rv
    refine hg Z' H' σ' _ x hh rv' fun Z2 H2 σ2 s2 h2 f2 => ?_
    refine hbd Z2 H2 σ2 _ h2 ?_
    have e3 : loopL f s0 l = (match f s y with | .nx s' => loopL f s' (l.drop (i + 1)) | .bk s' => .inl s' | .rt r => .inr r) := e1
    have e4 : (match f s y with | .nx s' => loopOk f ok s' (l.drop (i + 1)) | _ => True) := e2.2
    generalize hfy : f s y = z at lo e3 e4
    cases lo with
    | nx s' => exact fun Z3 H3 σ3 s3 h3 f3 => ⟨s', Z3, e3, e4, (st.trans s2).trans s3, h3, (fx.trans f2).trans f3, (st1.trans s2).trans s3⟩
    | bk s' =>
      rw [e3] at P
      exact fun Z3 H3 σ3 s3 h3 f3 => P Z3 H3 σ3 ((st.trans s2).trans s3) h3 ((fx.trans f2).trans f3)
    | rt r hl h2' h3' =>
      rw [e3] at P
      exact Post.rtD hl h2' h3' (P.mono (st.trans s2) (fx.trans f2))
  have fin : ∀ (Z1 : ZS) (H1 : Hp) (ws : List V), RepL X.K Z1 H1 (l.map enc) ws → ∀ (σ' : Stt) (H' : Hp), (∃ s Z', loopL f s0 l = loopL f s (l.drop ws.length) ∧ loopOk f ok s (l.drop ws.length) ∧ Stp Z H (Own env σ) Z' H' (Own (envS s) σ') ∧ Hld X.K Z' H' σ' (envS s) ∧ Fix M σ σ' ∧ Stp Z1 H1 (Own (envS s0) σ) Z' H' (Own (envS s) σ')) → D.nx σ' H' := by
    intro Z1 H1 ws rw1 σ' H' ⟨s, Z', e1, e2, st, hh, fx, _⟩
    have hl := rw1.length
    rw [List.length_map] at hl
    rw [← hl, List.drop_length] at e1
    rw [e1] at P
    exact P Z' H' σ' st hh fx
  cases hs with
  | tup xs =>
    refine wp_ps (ps_for hp hcalm (pi_tup (pe_wp iter)) (pg_wp tg) (pss_wp body) hf) ?_
    refine hi Z H σ _ hH fun Z1 H1 w s1 h1 r1 => ?_
    have r1' : Rep X.K Z1 H1 (.tup (l.map enc)) w := r1
    simp only [Rep] at r1'
    obtain ⟨a, ws, rfl, n, rr⟩ := r1'
    refine ⟨a, rfl, ⟨ws, n.sq⟩, ?_⟩
    exact for_tup (xs := ws) (fun i σ' H' => ∃ s Z', loopL f s0 l = loopL f s (l.drop i) ∧ loopOk f ok s (l.drop i) ∧ Stp Z H (Own env σ) Z' H' (Own (envS s) σ') ∧ Hld X.K Z' H' σ' (envS s) ∧ Fix M σ σ' ∧ Stp Z1 H1 (Own (envS s0) σ) Z' H' (Own (envS s) σ')) (Pv_start s1 h1)
      (fun i σ' H' _ ⟨s, Z', _, _, _, _, _, st1⟩ => (n.st st1.zm (h1.zk st1)).sq) (turn Z1 H1 ws h1 rr) (fin Z1 H1 ws rr)
  | lst xs =>
    refine wp_ps (ps_for hp hcalm (pi_list (pe_wp iter)) (pg_wp tg) (pss_wp body) hf) ?_
    refine hi Z H σ _ hH fun Z1 H1 w s1 h1 r1 => ?_
    have r1' : Rep X.K Z1 H1 (.lst (l.map enc)) w := r1
    simp only [Rep] at r1'
    obtain ⟨a, ws, rfl, n, rr⟩ := r1'
    refine ⟨a, rfl, ⟨ws, n.sq⟩, ?_⟩
    exact for_list (xs := ws) (fun i σ' H' => ∃ s Z', loopL f s0 l = loopL f s (l.drop i) ∧ loopOk f ok s (l.drop i) ∧ Stp Z H (Own env σ) Z' H' (Own (envS s) σ') ∧ Hld X.K Z' H' σ' (envS s) ∧ Fix M σ σ' ∧ Stp Z1 H1 (Own (envS s0) σ) Z' H' (Own (envS s) σ')) (Pv_start s1 h1)
      (fun i σ' H' _ ⟨s, Z', _, _, _, _, _, st1⟩ => (n.st st1.zm (h1.zk st1)).sq) (turn Z1 H1 ws h1 rr) (fin Z1 H1 ws rr)
/-- the ints of a range -/
def irange (lo hi : Int) : List Int := (List.range (hi - lo).toNat).map fun (k : Nat) => lo + (k : Int)
theorem irange_get {lo hi : Int} {i : Nat} (h : i < (hi - lo).toNat) : (irange lo hi)[i]? = some (lo + i) := by
  unfold irange
  rw [List.getElem?_map, List.getElem?_range h]; rfl
theorem irange_len (lo hi : Int) : (irange lo hi).length = (hi - lo).toNat := by unfold irange; simp
/-- for over a range -/
theorem for_rangeE {envS : S → En} {outR : R → Out} (f : S → Int → LO S R) (ok : S → Int → Prop) (lo hi : Int) (s0 : S) {Z Z1 : ZS} {H H1 : Hp} {σ : Stt} {D : Ends} (P : Post X M Z H (Own env σ) σ D (outL envS outR (loopL f s0 (irange lo hi))))
    (s1 : Stp Z H (Own env σ) Z1 H1 (Own (envS s0) σ)) (h1 : Hld X.K Z1 H1 σ (envS s0)) (hok : loopOk f ok s0 (irange lo hi))
    (hb : ∀ s x, x ∈ irange lo hi → ok s x → ∃ envt o, EvG X M tg (.int x) (envS s) envt ∧ EvSs X M body envt o ∧ Lo envS outR o (f s x)) :
    ∃ W : Nat → Nat → Stt → Hp → Prop, (∃ m, W 0 m σ H1) ∧ ∀ i m σ H, W i m σ H →
      ((Itr lo (hi - lo).toNat).stop i H ∧ D.nx σ H) ∨ ((Itr lo (hi - lo).toNat).go i H ∧ ∃ N : Stt → Hp → Prop, (∀ σ' H', N σ' H' → ∃ m', m' < m ∧ W (i + 1) m' σ' H') ∧ ∀ x H', (Itr lo (hi - lo).toNat).yld i H x H' → wpG X tg x σ H' fun σ2 H2 => wpSs X body { D with nx := N, ct := N, bk := D.nx } σ2 H2) := by
  refine for_range (fun i σ' H' => ∃ s Z', loopL f s0 (irange lo hi) = loopL f s ((irange lo hi).drop i) ∧ loopOk f ok s ((irange lo hi).drop i) ∧ Stp Z H (Own env σ) Z' H' (Own (envS s) σ') ∧ Hld X.K Z' H' σ' (envS s) ∧ Fix M σ σ') ⟨s0, Z1, rfl, hok, s1, h1, Fix.refl σ⟩ ?_ ?_
  · intro i σ' H' hlt ⟨s, Z', e1, e2, st, hh, fx⟩
    have hy := irange_get hlt
    have hy' := List.getElem?_eq_some_iff.mp hy
    have ed : (irange lo hi).drop i = (lo + i) :: (irange lo hi).drop (i + 1) := by rw [List.drop_eq_getElem_cons hy'.1, hy'.2]
    have hmem : lo + i ∈ irange lo hi := by rw [← hy'.2]; exact List.getElem_mem hy'.1
    rw [ed] at e1 e2
    obtain ⟨envt, o, hg, hbd, lo'⟩ := hb s _ hmem e2.1
    refine hg Z' H' σ' _ (.int (lo + i)) hh (rep_int _) fun Z2 H2 σ2 s2 h2 f2 => ?_
    refine hbd Z2 H2 σ2 _ h2 ?_
    have e3 : loopL f s0 (irange lo hi) = (match f s (lo + i) with | .nx s' => loopL f s' ((irange lo hi).drop (i + 1)) | .bk s' => .inl s' | .rt r => .inr r) := e1
    have e4 : (match f s (lo + i) with | .nx s' => loopOk f ok s' ((irange lo hi).drop (i + 1)) | _ => True) := e2.2
    generalize hfy : f s (lo + i) = z at lo' e3 e4
    cases lo' with
    | nx s' => exact fun Z3 H3 σ3 s3 h3 f3 => ⟨s', Z3, e3, e4, (st.trans s2).trans s3, h3, (fx.trans f2).trans f3⟩
    | bk s' =>
      rw [e3] at P
      exact fun Z3 H3 σ3 s3 h3 f3 => P Z3 H3 σ3 ((st.trans s2).trans s3) h3 ((fx.trans f2).trans f3)
    | rt r hl h2' h3' =>
      rw [e3] at P
      exact Post.rtD hl h2' h3' (P.mono (st.trans s2) (fx.trans f2))
  · intro σ' H' ⟨s, Z', e1, e2, st, hh, fx⟩
    rw [← irange_len, List.drop_length] at e1
    rw [e1] at P
    exact P Z' H' σ' st hh fx
theorem es_forR1 {envS : S → En} {outR : R → Out} {a : Expr} {p p' : Pos} (f : S → Int → LO S R) (ok : S → Int → Prop) (n : Int) (s0 : S) (hcalm : X.calm = true) (hp : PassesOwn (model X.prog X.w) X.A X.env X.xe) (hm : X.mg "range" = none)
    (ha : Ev X a env (.val (.int n)) (envS s0)) (hn : -(2 ^ 62) ≤ n ∧ n < 2 ^ 62) (hok : loopOk f ok s0 (irange 0 n))
    (hb : ∀ s x, x ∈ irange 0 n → ok s x → ∃ envt o, EvG X M tg (.int x) (envS s) envt ∧ EvSs X M body envt o ∧ Lo envS outR o (f s x)) (hg : Gl X "range" := by rfl) (hst : starEach [a] X.env = [(false, eval a X.env)] := by rfl)
    (hf : ∀ x, foldedSetIterable (.Call (.Name "range" p) [a] [] p') X.env x = pure x := by intro _; rfl) : EvS X M (.For tg (.Call (.Name "range" p) [a] [] p') body [] pos) env (outL envS outR (loopL f s0 (irange 0 n))) := fun Z H σ D hH P => by
  refine wp_ps (ps_for hp hcalm (pi_range1 hg hm (pa_wp [a]) hst) (pg_wp tg) (pss_wp body) hf) ?_
  refine (ea_cons ha ea_nil (by rw [hst]; rfl) : EvA X [a] env [.val (.int n)] (envS s0)) Z H σ _ hH fun Z1 H1 ws s1 h1 rs => ?_
  obtain ⟨w, rfl, r1⟩ := rep1 rs
  refine ⟨n, by rw [rep_int' (K := X.K) (Z := Z1) (H := H1) r1], hn.1, hn.2, ?_⟩
  have e : (n - 0).toNat = n.toNat := by rw [Int.sub_zero]
  have q := for_rangeE (X := X) (tg := tg) (body := body) f ok 0 n s0 P s1 h1 hok hb
  rw [e] at q
  exact q
theorem es_forR2 {envS : S → En} {outR : R → Out} {a b : Expr} {p p' : Pos} (f : S → Int → LO S R) (ok : S → Int → Prop) (m n : Int) (s0 : S) (hcalm : X.calm = true) (hp : PassesOwn (model X.prog X.w) X.A X.env X.xe) (hm : X.mg "range" = none)
    (ha : Ev X a env (.val (.int m)) env1) (hb' : Ev X b env1 (.val (.int n)) (envS s0)) (hn : (-(2 ^ 62) ≤ m ∧ m < 2 ^ 62) ∧ -(2 ^ 62) ≤ n ∧ n < 2 ^ 62) (hok : loopOk f ok s0 (irange m n))
    (hb : ∀ s x, x ∈ irange m n → ok s x → ∃ envt o, EvG X M tg (.int x) (envS s) envt ∧ EvSs X M body envt o ∧ Lo envS outR o (f s x)) (hg : Gl X "range" := by rfl) (hst : starEach [a, b] X.env = [(false, eval a X.env), (false, eval b X.env)] := by rfl) (hst2 : starEach [b] X.env = [(false, eval b X.env)] := by rfl)
    (hf : ∀ x, foldedSetIterable (.Call (.Name "range" p) [a, b] [] p') X.env x = pure x := by intro _; rfl) : EvS X M (.For tg (.Call (.Name "range" p) [a, b] [] p') body [] pos) env (outL envS outR (loopL f s0 (irange m n))) := fun Z H σ D hH P => by
  refine wp_ps (ps_for hp hcalm (pi_range2 hg hm (pa_wp [a, b]) hst hst2) (pg_wp tg) (pss_wp body) hf) ?_
  refine (ea_cons ha (ea_cons hb' ea_nil (by rw [hst2]; rfl)) (by rw [hst, hst2]) : EvA X [a, b] env [.val (.int m), .val (.int n)] (envS s0)) Z H σ _ hH fun Z1 H1 ws s1 h1 rs => ?_
  obtain ⟨w, w', rfl, r1, r2⟩ := rep2 rs
  refine ⟨m, n, by rw [rep_int' (K := X.K) (Z := Z1) (H := H1) r1, rep_int' (K := X.K) (Z := Z1) (H := H1) r2], ⟨hn.1.1, hn.1.2, hn.2.1, hn.2.2⟩, ?_⟩
  exact for_rangeE (X := X) (tg := tg) (body := body) f ok m n s0 P s1 h1 hok hb

/-! ### while -/
/-- so many turns at most; what leaves, or the state when the test fails -/
def whileL {S R : Type} (c : S → Bool) (f : S → LO S R) : Nat → S → S ⊕ R
  | 0, s => .inl s
  | n + 1, s => if c s = true then (match f s with
    | .nx s' => whileL c f n s'
    | .bk s' => .inl s'
    | .rt r => .inr r) else .inl s
/-- it comes to an end within so many turns, each of which is allowed -/
def whileOk {S R : Type} (c : S → Bool) (f : S → LO S R) (okc ok : S → Prop) : Nat → S → Prop
  | 0, s => okc s ∧ c s = false
  | n + 1, s => okc s ∧ (c s = true → ok s ∧ match f s with
    | .nx s' => whileOk c f okc ok n s'
    | _ => True)
theorem es_while {envS : S → En} {outR : R → Out} (cs : S → Bool) (f : S → LO S R) (okc ok : S → Prop) (n : Nat) (s0 : S) (hp : PassesOwn (model X.prog X.w) X.A X.env X.xe) (hok : whileOk cs f okc ok n s0)
    (hc : ∀ s, okc s → EvT X c (envS s) (cs s) (envS s)) (hb : ∀ s, ok s → cs s = true → ∃ o, EvSs X M body (envS s) o ∧ Lo envS outR o (f s)) : EvS X M (.While c body [] pos) (envS s0) (outL envS outR (whileL cs f n s0)) := fun Z H σ D hH P => by
  refine wp_ps (ps_while hp (pt_wp c) (pss_wp body)) ?_
  refine ⟨fun m σ' H' => ∃ s Z', whileL cs f n s0 = whileL cs f m s ∧ whileOk cs f okc ok m s ∧ Stp Z H (Own (envS s0) σ) Z' H' (Own (envS s) σ') ∧ Hld X.K Z' H' σ' (envS s) ∧ Fix M σ σ', ⟨n, s0, Z, rfl, hok, Stp.refl .., hH, Fix.refl σ⟩, ?_⟩
  rintro m σ' H' ⟨s, Z', e1, e2, st, hh, fx⟩
  have okc_s : okc s := by cases m with | zero => exact e2.1 | succ m => exact e2.1
  refine hc s okc_s Z' H' σ' _ hh fun Z2 H2 s2 h2 => ?_
  cases hcs : cs s with
  | false =>
    rw [if_neg (by decide)]
    have e3 : whileL cs f m s = .inl s := by
      cases m with
      | zero => rfl
      | succ m => show (if cs s = true then _ else _) = _; rw [hcs]; rfl
    rw [e1, e3] at P
    exact P Z2 H2 σ' (st.trans s2) h2 fx
  | true =>
    rw [if_pos rfl]
    cases m with
    | zero => have q := e2.2; rw [hcs] at q; cases q
    | succ m =>
      have e3 : whileL cs f (m + 1) s = (match f s with | .nx s' => whileL cs f m s' | .bk s' => .inl s' | .rt r => .inr r) := by
        show (if cs s = true then _ else _) = _
        rw [hcs]; rfl
      obtain ⟨ok_s, e4⟩ := e2.2 hcs
      refine ⟨fun σ'' H'' => ∃ s Z', whileL cs f n s0 = whileL cs f m s ∧ whileOk cs f okc ok m s ∧ Stp Z H (Own (envS s0) σ) Z' H'' (Own (envS s) σ'') ∧ Hld X.K Z' H'' σ'' (envS s) ∧ Fix M σ σ'', fun σ'' H'' q => ⟨m, Nat.lt_succ_self m, q⟩, ?_⟩
      obtain ⟨o, hbd, lo⟩ := hb s ok_s hcs
      refine hbd Z2 H2 σ' _ h2 ?_
      rw [e3] at e1
      generalize hfy : f s = z at lo e1 e4
      cases lo with
      | nx s' => exact fun Z3 H3 σ3 s3 h3 f3 => ⟨s', Z3, e1, e4, (st.trans s2).trans s3, h3, fx.trans f3⟩
      | bk s' =>
        rw [e1] at P
        exact fun Z3 H3 σ3 s3 h3 f3 => P Z3 H3 σ3 ((st.trans s2).trans s3) h3 (fx.trans f3)
      | rt r hl h2' h3' =>
        rw [e1] at P
        exact Post.rtD hl h2' h3' (P.mono (st.trans s2) fx)
end
end VL

/-! VL8: list comprehensions. -/
namespace VL
open PySem PySem.Spec PyProof.Rows L2

theorem Stp.more {Z : ZS} {H : Hp} {O Z' : ZS} {H' : Hp} {O' : ZS} (P : ZS) (s : Stp Z H O Z' H' O') : Stp Z H (fun a => O a ∨ P a) Z' H' (fun a => O' a ∨ P a) :=
  ⟨fun a o e n => s.keep a o e fun h => n (.inl h), s.zm, fun a z => by
    rcases s.zn a z with h | h | h
    · exact .inl h
    · exact .inr (.inl (.inl h))
    · exact .inr (.inr h), fun a z => by
    rcases z with z | z
    · rcases s.on a z with h | h
      · exact .inl (.inl h)
      · exact .inr h
    · exact .inl (.inr z), s.dom⟩
/-! ### slots wiped -/
def wipeE (env : En) : List Nat → En
  | [] => env
  | v :: vs => (wipeE env vs).set v .no
theorem wipeE_len (env : En) : ∀ vs : List Nat, (wipeE env vs).length = env.length
  | [] => rfl
  | v :: vs => by unfold wipeE; rw [List.length_set, wipeE_len env vs]
theorem wipeE_in {env : En} {i : Nat} {s : Sl} : ∀ {vs : List Nat}, i ∈ vs → (wipeE env vs)[i]? = some s → s = .no
  | v :: vs, h, e => by
    unfold wipeE at e
    by_cases q : v = i
    · rcases get_set_some e with ⟨_, e'⟩ | ⟨n, _⟩
      · exact e'
      · exact absurd q.symm n
    · rw [List.getElem?_set_ne q] at e
      rcases List.mem_cons.mp h with h | h
      · exact absurd h.symm q
      · exact wipeE_in h e
theorem wipeE_out {env : En} {i : Nat} : ∀ {vs : List Nat}, i ∉ vs → (wipeE env vs)[i]? = env[i]?
  | [], _ => rfl
  | v :: vs, h => by
    unfold wipeE
    rw [List.getElem?_set_ne (fun q => h (by rw [q]; exact List.mem_cons_self))]
    exact wipeE_out fun q => h (List.mem_cons_of_mem _ q)
theorem wipe_out {σ : Stt} {i : Nat} : ∀ {vs : List Nat}, i ∉ vs → (wipe σ vs)[i]? = σ[i]?
  | [], _ => rfl
  | v :: vs, h => by
    unfold wipe
    rw [List.getElem?_set_ne (fun q => h (by rw [q]; exact List.mem_cons_self))]
    exact wipe_out fun q => h (List.mem_cons_of_mem _ q)
theorem wipe_in {σ : Stt} {i : Nat} : ∀ {vs : List Nat}, i ∈ vs → i < σ.length → (wipe σ vs)[i]? = some none
  | v :: vs, h, hi => by
    unfold wipe
    by_cases q : v = i
    · rw [q]; exact List.getElem?_set_self (by rw [wipe_length]; exact hi)
    · rw [List.getElem?_set_ne q]
      rcases List.mem_cons.mp h with h | h
      · exact absurd h.symm q
      · exact wipe_in h hi
def oth (n : Nat) (vs : List Nat) : List Nat := (List.range n).filter fun i => decide (i ∉ vs)
theorem wipe_fix {σ σ' : Stt} {vs : List Nat} (hl : σ'.length = σ.length) (f : Fix (oth σ.length vs) (wipe σ vs) σ') : wipe σ' vs = wipe σ vs := by
  refine List.ext_getElem? fun i => ?_
  by_cases hi : i < σ.length
  · by_cases hv : i ∈ vs
    · rw [wipe_in hv hi, wipe_in hv (by omega)]
    · rw [wipe_out hv, f i (List.mem_filter.mpr ⟨List.mem_range.mpr hi, decide_eq_true hv⟩)]
  · rw [List.getElem?_eq_none (by rw [wipe_length]; omega), List.getElem?_eq_none (by rw [wipe_length]; omega)]
section
variable {K : PySem.W.Frag} {Z Z' : ZS} {H H' : Hp} {σ σ' : Stt} {env env' envt : En} {vs : List Nat}
theorem wipe_own {a : Addr} (o : Own (wipeE env vs) (wipe σ vs) a) : ∃ i v, i ∉ vs ∧ env[i]? = some (Sl.ow v) ∧ σ[i]? = some (some (V.ref a)) := by
  obtain ⟨i, v, e, q⟩ := o
  by_cases hv : i ∈ vs
  · exact absurd (wipeE_in hv e) (by intro z; cases z)
  · rw [wipeE_out hv] at e
    rw [wipe_out hv] at q
    exact ⟨i, v, hv, e, q⟩
theorem Hld.wipe (h : Hld K Z H σ env) (vs : List Nat) : Hld K Z H (wipe σ vs) (wipeE env vs) := by
  refine ⟨fun i s e => ?_, fun i j v u a e1 e2 q1 q2 => ?_, h.zd, by rw [wipeE_len, wipe_length]; exact h.len⟩
  · by_cases hv : i ∈ vs
    · rw [wipeE_in hv e]; trivial
    · rw [wipeE_out hv] at e
      have q := h.sl i s e
      cases s with
      | no => trivial
      | im v => obtain ⟨w, s, r⟩ := (show ∃ w, σ[i]? = some (some w) ∧ Rep K Z H v w from q); exact ⟨w, (wipe_out hv).trans s, r⟩
      | ow v => obtain ⟨a, s, r⟩ := (show ∃ a, σ[i]? = some (some (V.ref a)) ∧ Top K Z H v a ∧ ¬ Z a from q); exact ⟨a, (wipe_out hv).trans s, r⟩
  · by_cases h1 : i ∈ vs
    · exact absurd (wipeE_in h1 e1) (by intro z; cases z)
    · by_cases h2 : j ∈ vs
      · exact absurd (wipeE_in h2 e2) (by intro z; cases z)
      · rw [wipeE_out h1] at e1
        rw [wipeE_out h2] at e2
        rw [wipe_out h1] at q1
        rw [wipe_out h2] at q2
        exact h.inj i j v u a e1 e2 q1 q2
/-- behind a block: its own names forgotten, what they held outside is there again -/
theorem Hld.unwipe (h : Hld K Z H σ env) (s : Stp Z H (Own (wipeE env vs) (L2.wipe σ vs)) Z' H' (Own envt σ')) (h' : Hld K Z' H' σ' envt) (f : Fix (oth σ.length vs) (L2.wipe σ vs) σ') (hw : wipeE envt vs = wipeE env' vs) (hv : ∀ i ∈ vs, env'[i]? = env[i]?) (hl : env'.length = env.length) :
    Hld K Z' H' σ env' ∧ Stp Z H (Own env σ) Z' H' (Own env' σ) := by
  have ow : ∀ a, Own (wipeE env vs) (L2.wipe σ vs) a → Own env σ a := fun a o => by
    obtain ⟨i, v, _, e, q⟩ := wipe_own o
    exact ⟨i, v, e, q⟩
  -- an address outside stays outside
  have out : ∀ i v a, i ∈ vs → env[i]? = some (Sl.ow v) → σ[i]? = some (some (V.ref a)) → ¬ Own (wipeE env vs) (L2.wipe σ vs) a := fun i v a hi e q o => by
    obtain ⟨j, u, hj, e', q'⟩ := wipe_own o
    exact hj (by rw [h.inj j i u v a e' e q' q]; exact hi)
  have blk : ∀ i v, i ∉ vs → env'[i]? = some (Sl.ow v) → envt[i]? = some (Sl.ow v) := fun i v hi e => by
    have g : (wipeE envt vs)[i]? = (wipeE env' vs)[i]? := by rw [hw]
    rw [wipeE_out hi, wipeE_out hi] at g
    rw [g]; exact e
  have sig : ∀ i v, i ∉ vs → env'[i]? = some v → σ'[i]? = σ[i]? := fun i v hi e => by
    have lt : i < σ.length := by rw [← h.len, ← hl]; exact (List.getElem?_eq_some_iff.mp e).1
    rw [f i (List.mem_filter.mpr ⟨List.mem_range.mpr lt, decide_eq_true hi⟩), wipe_out hi]
  have own' : ∀ a, Own env' σ a → Own env σ a ∨ H a = none := fun a ⟨i, v, e, q⟩ => by
    by_cases hi : i ∈ vs
    · rw [hv i hi] at e
      exact .inl ⟨i, v, e, q⟩
    · rcases s.on a ⟨i, v, blk i v hi e, by rw [sig i _ hi e]; exact q⟩ with o | o
      · exact .inl (ow a o)
      · exact .inr o
  have kz : ∀ b u, Z b → H b = some u → H' b = some u := fun b u z e => s.keep b u e fun o => h.oz (ow b o) z
  refine ⟨⟨fun i sl e => ?_, fun i j v u a e1 e2 q1 q2 => ?_, h'.zd, hl.trans h.len⟩, ⟨fun a o e n => s.keep a o e fun q => n (ow a q), s.zm, fun a z => ?_, own', s.dom⟩⟩
  · by_cases hi : i ∈ vs
    · rw [hv i hi] at e
      have q := h.sl i sl e
      cases sl with
      | no => trivial
      | im v => obtain ⟨w, sw, r⟩ := (show ∃ w, σ[i]? = some (some w) ∧ Rep K Z H v w from q); exact ⟨w, sw, Rep.st s.zm kz v r⟩
      | ow v =>
        obtain ⟨a, sa, t, nz⟩ := (show ∃ a, σ[i]? = some (some (V.ref a)) ∧ Top K Z H v a ∧ ¬ Z a from q)
        have no := out i v a hi e sa
        refine ⟨a, sa, Top.st s.zm kz (fun o x => s.keep a o x no) t, fun z => ?_⟩
        rcases s.zn a z with z | z | z
        · exact nz z
        · exact no z
        · obtain ⟨o, x⟩ := t.there; rw [z] at x; cases x
    · have g : (wipeE envt vs)[i]? = (wipeE env' vs)[i]? := by rw [hw]
      rw [wipeE_out hi, wipeE_out hi, e] at g
      have q := h'.sl i sl g
      have es := sig i sl hi e
      cases sl with
      | no => trivial
      | im v => obtain ⟨w, sw, r⟩ := (show ∃ w, σ'[i]? = some (some w) ∧ Rep K Z' H' v w from q); exact ⟨w, es.symm.trans sw, r⟩
      | ow v => obtain ⟨a, sa, r⟩ := (show ∃ a, σ'[i]? = some (some (V.ref a)) ∧ Top K Z' H' v a ∧ ¬ Z' a from q); exact ⟨a, es.symm.trans sa, r⟩
  · by_cases hi : i ∈ vs
    · rw [hv i hi] at e1
      by_cases hj : j ∈ vs
      · rw [hv j hj] at e2
        exact h.inj i j v u a e1 e2 q1 q2
      · exfalso
        rcases s.on a ⟨j, u, blk j u hj e2, by rw [sig j _ hj e2]; exact q2⟩ with o | o
        · exact out i v a hi e1 q1 o
        · obtain ⟨o', x⟩ := h.od ⟨i, v, e1, q1⟩; rw [o] at x; cases x
    · by_cases hj : j ∈ vs
      · rw [hv j hj] at e2
        exfalso
        rcases s.on a ⟨i, v, blk i v hi e1, by rw [sig i _ hi e1]; exact q1⟩ with o | o
        · exact out j u a hj e2 q2 o
        · obtain ⟨o', x⟩ := h.od ⟨j, u, e2, q2⟩; rw [o] at x; cases x
      · exact h'.inj i j v u a (blk i v hi e1) (blk j u hj e2) (by rw [sig i _ hi e1]; exact q1) (by rw [sig j _ hj e2]; exact q2)
  · rcases s.zn a z with z | z | z
    · exact .inl z
    · exact .inr (.inl (ow a z))
    · exact .inr (.inr z)
/-- a tracked object that nobody's slot has and that is not known is changed -/
theorem Hld.bump {D : Addr} {o u : HO} (h : Hld K Z H σ env) (e : H D = some u) (nz : ¬ Z D) (no : ¬ Own env σ D) : Hld K Z (upd H D o) σ env ∧ (∀ b x, Z b → H b = some x → upd H D o b = some x) := by
  have zk : ∀ b x, Z b → H b = some x → upd H D o b = some x := fun b x z q => by
    rw [upd_ne (fun y : b = D => nz (by rw [← y]; exact z))]; exact q
  refine ⟨⟨fun i s q => ?_, h.inj, fun a z => ?_, h.len⟩, zk⟩
  · have r := h.sl i s q
    cases s with
    | no => trivial
    | im v => obtain ⟨w, sw, r⟩ := (show ∃ w, σ[i]? = some (some w) ∧ Rep K Z H v w from r); exact ⟨w, sw, Rep.st (fun _ z => z) zk v r⟩
    | ow v =>
      obtain ⟨a, sa, t, nz'⟩ := (show ∃ a, σ[i]? = some (some (V.ref a)) ∧ Top K Z H v a ∧ ¬ Z a from r)
      exact ⟨a, sa, Top.st (fun _ z => z) zk (fun x y => by rw [upd_ne (fun w => no (by rw [← w]; exact ⟨i, v, q, sa⟩))]; exact y) t, nz'⟩
  · obtain ⟨x, q⟩ := h.zd a z
    exact ⟨x, zk a x z q⟩
end
/-! ### what is gone through -/
def KeepZ (Z : ZS) (H H' : Hp) : Prop := ∀ b u, Z b → H b = some u → H' b = some u
structure ItV (K : PySem.W.Frag) (Z : ZS) (H : Hp) (J : It) (vals : List Val) : Prop where
  stop : ∀ H', KeepZ Z H H' → J.stop vals.length H'
  go : ∀ i H', i < vals.length → KeepZ Z H H' → J.go i H'
  yld : ∀ (i : Nat) (x : V) (Z' : ZS) (H' H'' : Hp) (σ : Stt) (env : En), (∀ b, Z b → Z' b) → KeepZ Z H H' → Hld K Z' H' σ env → J.yld i H' x H'' → ∀ v, vals[i]? = some v →
    ∃ Z'', Stp Z' H' (Own env σ) Z'' H'' (Own env σ) ∧ Hld K Z'' H'' σ env ∧ Rep K Z'' H'' v x
  keepD : ∀ (i : Nat) (x : V) (H' H'' : Hp), J.yld i H' x H'' → ∀ b u, H' b = some u → H'' b = some u
def SrcR (K : PySem.W.Frag) (wi : TI) (env : En) (vals : List Val) (env1 : En) : Prop := ∀ (Z : ZS) (H : Hp) (σ : Stt) (R : It → Hp → Prop), Hld K Z H σ env →
  (∀ Z1 H1 J, Stp Z H (Own env σ) Z1 H1 (Own env1 σ) → Hld K Z1 H1 σ env1 → ItV K Z1 H1 J vals → vals.length ≤ sizeLine → R J H1) → wi σ H R
section
variable {K : PySem.W.Frag} {Z Z' : ZS} {H H' : Hp}
theorem itv_tup {a : Addr} {ws : List V} {vals : List Val} (n : NT K Z H a ws) (r : RepL K Z H vals ws) (zd : ∀ a, Z a → ∃ o, H a = some o) : ItV K Z H (Itt K a) vals where
  stop := fun H' k => ⟨ws, (n.st (Z' := Z) (fun _ z => z) k).sq, by rw [r.length]; exact Nat.le_refl _⟩
  go := fun i H' hi k => ⟨ws, ws[i]'(by rw [← r.length]; exact hi), (n.st (Z' := Z) (fun _ z => z) k).sq, List.getElem?_eq_getElem _⟩
  yld := fun i x Z' H' H'' σ env zm k h y v hv => by
    obtain ⟨rfl, y⟩ := y
    refine ⟨Z', Stp.refl .., h, ?_⟩
    obtain ⟨w, g, rv⟩ := r.get hv
    have e := y ws (n.st (Z' := Z) (fun _ z => z) k).sq
    rw [g] at e; cases e
    exact Rep.st zm k v rv
  keepD := fun i x H' H'' y b u e => by rw [y.1]; exact e
theorem itv_lst {a : Addr} {ws : List V} {vals : List Val} (n : NL K Z H a ws) (r : RepL K Z H vals ws) (zd : ∀ a, Z a → ∃ o, H a = some o) : ItV K Z H (Itl K a) vals where
  stop := fun H' k => ⟨ws, (n.st (Z' := Z) (fun _ z => z) k).sq, by rw [r.length]; exact Nat.le_refl _⟩
  go := fun i H' hi k => ⟨ws, ws[i]'(by rw [← r.length]; exact hi), (n.st (Z' := Z) (fun _ z => z) k).sq, List.getElem?_eq_getElem _⟩
  yld := fun i x Z' H' H'' σ env zm k h y v hv => by
    obtain ⟨rfl, y⟩ := y
    refine ⟨Z', Stp.refl .., h, ?_⟩
    obtain ⟨w, g, rv⟩ := r.get hv
    have e := y ws (n.st (Z' := Z) (fun _ z => z) k).sq
    rw [g] at e; cases e
    exact Rep.st zm k v rv
  keepD := fun i x H' H'' y b u e => by rw [y.1]; exact e
theorem itv_rng {lo hi : Int} : ItV K Z H (Itr lo (hi - lo).toNat) ((irange lo hi).map Val.int) where
  stop := fun H' k => by rw [List.length_map, irange_len]; exact Nat.le_refl _
  go := fun i H' hi k => by rw [List.length_map, irange_len] at hi; exact hi
  yld := fun i x Z' H' H'' σ env zm k h y v hv => by
    obtain ⟨rfl, rfl⟩ := y
    refine ⟨Z', Stp.refl .., h, ?_⟩
    rw [List.getElem?_map] at hv
    obtain ⟨z, hz, rfl⟩ := Option.map_eq_some_iff.mp hv
    have hlt := (List.getElem?_eq_some_iff.mp hz).1
    rw [irange_len] at hlt
    rw [irange_get hlt] at hz
    cases hz
    exact rep_int _
  keepD := fun i x H' H'' y b u e => by rw [y.1]; exact e
end
section
variable {X : Cx} {tg iter a b : Expr} {env env1 env2 : En} {xs : List Val} {m n : Int} {p pos : Pos}
theorem src_tup (h : Ev X iter env (.val (.tup xs)) env1) : SrcR X.K (iTup X.K (wpE X iter)) env xs env1 := fun Z H σ R hH k =>
  h Z H σ _ hH fun Z1 H1 w s h1 r => by
    have hz := (show RepT X.K Z1 H1 (.tup xs) w from .inl r).szT
    have r' : Rep X.K Z1 H1 (.tup xs) w := r
    simp only [Rep] at r'
    obtain ⟨a, ws, rfl, n, rr⟩ := r'
    exact ⟨a, rfl, ⟨ws, n.sq⟩, k Z1 H1 _ s h1 (itv_tup n rr h1.zd) hz⟩
theorem src_lst (h : Ev X iter env (.val (.lst xs)) env1) : SrcR X.K (iList X.K (wpE X iter)) env xs env1 := fun Z H σ R hH k =>
  h Z H σ _ hH fun Z1 H1 w s h1 r => by
    have hz := (show RepT X.K Z1 H1 (.lst xs) w from .inl r).szL
    have r' : Rep X.K Z1 H1 (.lst xs) w := r
    simp only [Rep] at r'
    obtain ⟨a, ws, rfl, n, rr⟩ := r'
    exact ⟨a, rfl, ⟨ws, n.sq⟩, k Z1 H1 _ s h1 (itv_lst n rr h1.zd) hz⟩
theorem src_r1 (ha : Ev X a env (.val (.int n)) env1) (hn : n ≤ 16777216 ∧ -(2 ^ 62) ≤ n) (hst : starEach [a] X.env = [(false, eval a X.env)] := by rfl) : SrcR X.K (iRng1 (wpA X [a])) env ((irange 0 n).map Val.int) env1 := fun Z H σ R hH k =>
  (ea_cons ha ea_nil (by rw [hst]; rfl) : EvA X [a] env [.val (.int n)] env1) Z H σ _ hH fun Z1 H1 ws s h1 rs => by
    obtain ⟨w, rfl, r1⟩ := rep1 rs
    refine ⟨n, by rw [rep_int' (K := X.K) (Z := Z1) (H := H1) r1], hn.2, by omega, ?_⟩
    have q := k Z1 H1 (Itr 0 (n - 0).toNat) s h1 itv_rng (by rw [List.length_map, irange_len, sizeLine_eq]; omega)
    rw [Int.sub_zero] at q
    exact q
theorem src_r2 (ha : Ev X a env (.val (.int m)) env1) (hb : Ev X b env1 (.val (.int n)) env2) (hn : n ≤ m + 16777216 ∧ -(2 ^ 62) ≤ n ∧ n < 2 ^ 62 ∧ -(2 ^ 62) ≤ m ∧ m < 2 ^ 62) (hst : starEach [a, b] X.env = [(false, eval a X.env), (false, eval b X.env)] := by rfl) (hst2 : starEach [b] X.env = [(false, eval b X.env)] := by rfl) :
    SrcR X.K (iRng2 (wpA X [a, b])) env ((irange m n).map Val.int) env2 := fun Z H σ R hH k =>
  (ea_cons ha (ea_cons hb ea_nil (by rw [hst2]; rfl)) (by rw [hst, hst2]) : EvA X [a, b] env [.val (.int m), .val (.int n)] env2) Z H σ _ hH fun Z1 H1 ws s h1 rs => by
    obtain ⟨w, w', rfl, r1, r2⟩ := rep2 rs
    exact ⟨m, n, by rw [rep_int' (K := X.K) (Z := Z1) (H := H1) r1, rep_int' (K := X.K) (Z := Z1) (H := H1) r2], ⟨hn.2.2.2.1, hn.2.2.2.2, hn.2.1, hn.2.2.1⟩, k Z1 H1 _ s h1 itv_rng (by rw [List.length_map, irange_len, sizeLine_eq]; omega)⟩
end
/-! ### a comprehension's block -/
abbrev Bk (X : Cx) (scope : Scope) (s : Shared) (H : Hp) (C : Addr) (cl : List (Str × Addr)) (fp : List Addr) : Cx := X.blk s H scope (compEnvC scope cl C X.env) fp
def gA (X : Cx) (scope : Scope) (tg : Expr) : TG := fun v σ H Q => ∀ s H0 C cl fp, wpG (Bk X scope s H0 C cl fp) tg v σ H Q
def tA (X : Cx) (scope : Scope) : List Expr → TT
  | [] => tYes
  | c :: _ => fun σ H Q => ∀ s H0 C cl fp, wpT (Bk X scope s H0 C cl fp) c σ H Q
def eA (X : Cx) (scope : Scope) (e : Expr) : TE := fun σ H Q => ∀ s H0 C cl fp, wpE (Bk X scope s H0 C cl fp) e σ H Q
theorem pg_A (X : Cx) (scope : Scope) (tg : Expr) (s : Shared) (H : Hp) (C : Addr) (cl : List (Str × Addr)) (fp : List Addr) : PG (Bk X scope s H C cl fp) tg (gA X scope tg) := ⟨fun pins s' σ H' v u Q I r h => h s H C cl fp pins s' u I r⟩
theorem pe_A (X : Cx) (scope : Scope) (e : Expr) (s : Shared) (H : Hp) (C : Addr) (cl : List (Str × Addr)) (fp : List Addr) : PE (Bk X scope s H C cl fp) e (eA X scope e) := ⟨fun pins s' σ H' Q I h => h s H C cl fp pins s' I⟩
theorem pts_A0 (X : Cx) (scope : Scope) (s : Shared) (H : Hp) (C : Addr) (cl : List (Str × Addr)) (fp : List Addr) : PTs (Bk X scope s H C cl fp) [] (tA X scope []) := pts_nil
theorem pts_A1 (X : Cx) (scope : Scope) (c : Expr) (s : Shared) (H : Hp) (C : Addr) (cl : List (Str × Addr)) (fp : List Addr) : PTs (Bk X scope s H C cl fp) [c] (tA X scope [c]) := pts_one ⟨fun pins s' σ H' Q I h => h s H C cl fp pins s' I⟩
/-- a test of a clause; none is True -/
def EvTA (X : Cx) (scope : Scope) (ifs : List Expr) (env : En) (b : Bool) (env' : En) : Prop := ∀ (Z : ZS) (H : Hp) (σ : Stt) (Q : Bool → Hp → Prop), Hld X.K Z H σ env →
  (∀ Z' H', Stp Z H (Own env σ) Z' H' (Own env' σ) → Hld X.K Z' H' σ env' → Q b H') → tA X scope ifs σ H Q
theorem eta_nil {X : Cx} {scope : Scope} {env : En} : EvTA X scope [] env true env := fun Z H σ Q hH k => k Z H (Stp.refl ..) hH
theorem eta_one {X : Cx} {scope : Scope} {c : Expr} {env env' : En} {b : Bool} (h : ∀ s H0 C cl fp, EvT (Bk X scope s H0 C cl fp) c env b env') : EvTA X scope [c] env b env' := fun Z H σ Q hH k s H0 C cl fp => h s H0 C cl fp Z H σ Q hH k

/-- what a comprehension gathers: p tells whether an item is in, g gives its value and the state behind it -/
def lcL {α β S : Type} (p : S → α → Bool) (g : S → α → β × S) : S → List α → List β × S
  | s, [] => ([], s)
  | s, x :: xs => if p s x = true then ((g s x).1 :: (lcL p g (g s x).2 xs).1, (lcL p g (g s x).2 xs).2) else lcL p g s xs
def lcOk {α β S : Type} (p : S → α → Bool) (g : S → α → β × S) (okp okg : S → α → Prop) : S → List α → Prop
  | _, [] => True
  | s, x :: xs => okp s x ∧ if p s x = true then okg s x ∧ lcOk p g okp okg (g s x).2 xs else lcOk p g okp okg s xs
theorem lcL_pure {α β : Type} (p : α → Bool) (g : α → β) : ∀ (xs : List α), lcL (S := Unit) (fun _ x => p x) (fun _ x => (g x, ())) () xs = ((xs.filter p).map g, ())
  | [] => rfl
  | x :: xs => by
    have ih := lcL_pure p g xs
    unfold lcL
    by_cases h : p x = true
    · rw [if_pos h, ih, List.filter_cons_of_pos h]; rfl
    · rw [if_neg h, ih, List.filter_cons_of_neg h]
theorem lcOk_pure {α β : Type} {p : α → Bool} {g : α → β} {okp okg : α → Prop} : ∀ {xs : List α}, (∀ x ∈ xs, okp x ∧ (p x = true → okg x)) → lcOk (S := Unit) (fun _ x => p x) (fun _ x => (g x, ())) (fun _ x => okp x) (fun _ x => okg x) () xs
  | [], _ => trivial
  | x :: xs, h => by
    refine ⟨(h x List.mem_cons_self).1, ?_⟩
    have ih := lcOk_pure (g := g) (xs := xs) fun y hy => h y (List.mem_cons_of_mem _ hy)
    by_cases hp : p x = true
    · rw [if_pos hp]; exact ⟨(h x List.mem_cons_self).2 hp, ih⟩
    · rw [if_neg hp]; exact ih
section
variable {X : Cx} {scope : Scope} {tg elt : Expr} {ifs : List Expr} {wi : TI} {env : En} {vs : List Nat} {α β S : Type}
/-- the reading of a comprehension -/
theorem lcN (envS : S → En) (s0 : S) (encA : α → Val) (encB : β → Val) (l : List α) (p : S → α → Bool) (g : S → α → β × S) (okp okg : S → α → Prop) (N : Nat) (hsrc : SrcR X.K wi env (l.map encA) (envS s0)) (hok : lcOk p g okp okg s0 l) (hN : ∀ s, (envS s).length = N)
    (ht : ∀ s x, x ∈ l → okp s x → ∃ envx, (∀ s' H0 C cl fp, EvG (Bk X scope s' H0 C cl fp) (oth N vs) tg (encA x) (wipeE (envS s) vs) envx) ∧ wipeE envx vs = wipeE (envS s) vs ∧ EvTA X scope ifs envx (p s x) envx ∧
      (p s x = true → okg s x → ∃ envy, (∀ s' H0 C cl fp, Ev (Bk X scope s' H0 C cl fp) elt envx (.val (encB (g s x).1)) envy) ∧ wipeE envy vs = wipeE (envS (g s x).2) vs ∧ ∀ i ∈ vs, (envS (g s x).2)[i]? = (envS s)[i]?)) :
    EvNR X.K (tLc wi (gA X scope tg) (tA X scope ifs) (eA X scope elt) vs) env (.lst ((lcL p g s0 l).1.map encB)) (envS (lcL p g s0 l).2) := fun Z H σ Q hH k => by
  refine hsrc Z H σ _ hH fun Z1 H1 J s1 h1 it hz D hD => ?_
  rw [List.length_map] at hz
  have hDz : ¬ Z1 D := h1.fz hD
  have hDo : ¬ Own (envS s0) σ D := h1.fo hD
  have hD0 : H D = none := s1.back hD
  let Pv : Nat → Hp → Prop := fun i H' => ∃ (s : S) (Z' : ZS) (dn : List β) (acc : List V), (lcL p g s0 l) = (dn ++ (lcL p g s (l.drop i)).1, (lcL p g s (l.drop i)).2) ∧ lcOk p g okp okg s (l.drop i) ∧ dn.length ≤ i ∧
    Stp Z H (Own env σ) Z' H' (fun a => Own (envS s) σ a ∨ a = D) ∧ (∀ a, Z1 a → Z' a) ∧ KeepZ Z1 H1 H' ∧ Hld X.K Z' H' σ (envS s) ∧ H' D = some (.lst acc) ∧ RepL X.K Z' H' (dn.map encB) acc ∧ ¬ Z' D ∧ ¬ Own (envS s) σ D
  have start : Pv 0 (upd H1 D (.lst [])) := by
    obtain ⟨h2, s2, nz, no⟩ := h1.newO (o := .lst []) hD
    refine ⟨s0, Z1, [], [], rfl, hok, Nat.le_refl _, ⟨(s1.trans s2).keep, s1.zm, s1.zn, fun a o => ?_, (s1.trans s2).dom⟩, fun _ z => z, fun b u z e => by rw [upd_ne (fun q : b = D => hDz (by rw [← q]; exact z))]; exact e, h2, upd_same, RepL.nil, nz, no⟩
    rcases o with o | rfl
    · exact s1.on a o
    · exact .inr hD0
  refine ⟨fun i m H' => m = l.length - i ∧ i ≤ l.length ∧ Pv i H', ⟨l.length, by simp, Nat.zero_le _, start⟩, ?_⟩
  rintro i m H' ⟨rfl, hi, s, Z', dn, acc, e1, e2, hdn, st, zm1, kz1, hh, hacc, racc, nzD, noD⟩
  by_cases hlt : i < l.length
  · right
    refine ⟨it.go i H' (by rw [List.length_map]; exact hlt) kz1, Pv (i + 1), fun H'' q => ⟨l.length - (i + 1), by omega, rfl, hlt, q⟩, fun x H'' y => ?_⟩
    have hx : l[i]? = some l[i] := List.getElem?_eq_getElem hlt
    have hmem : l[i] ∈ l := List.getElem_mem hlt
    have ed : l.drop i = l[i] :: l.drop (i + 1) := List.drop_eq_getElem_cons hlt
    generalize l[i] = xi at hx hmem ed
    obtain ⟨Z2, s2, h2, rx⟩ := it.yld i x Z' H' H'' σ (envS s) zm1 kz1 hh y (encA xi) (by rw [List.getElem?_map, hx]; rfl)
    have hDD : H'' D = some (.lst acc) := it.keepD i x H' H'' y D _ hacc
    have nzD2 : ¬ Z2 D := fun z => by
      rcases s2.zn D z with z | z | z
      · exact nzD z
      · exact noD z
      · rw [hacc] at z; cases z
    have kz2 : KeepZ Z' H' H'' := fun b u z e => it.keepD i x H' H'' y b u e
    rw [ed] at e1 e2
    obtain ⟨envx, hg, hwx, htst, hel⟩ := ht s xi hmem e2.1
    have hw := h2.wipe vs
    intro s' H0 C cl fp
    refine hg s' H0 C cl fp Z2 H'' (wipe σ vs) _ x hw rx fun Z3 H3 σ3 s3 h3 f3 => ?_
    have hN' : σ.length = N := by rw [← h2.len]; exact hN s
    have f3' : Fix (oth σ.length vs) (wipe σ vs) σ3 := by rw [hN']; exact f3
    have lenx : envx.length = (envS s).length := by
      have e := congrArg List.length hwx
      rwa [wipeE_len, wipeE_len] at e
    have lens : σ3.length = σ.length := by rw [← h3.len, lenx, h2.len]
    refine ⟨wipe_fix lens f3', ?_⟩
    -- an address that is not in the block's hands stays
    have dStay : ∀ {Za : ZS} {Ha : Hp} {Oa Zb : ZS} {Hb : Hp} {Ob : ZS}, Stp Za Ha Oa Zb Hb Ob → ¬ Oa D → ¬ Za D → Ha D = some (.lst acc) → Hb D = some (.lst acc) ∧ ¬ Zb D ∧ ¬ Ob D := fun {Za Ha Oa Zb Hb Ob} q no nz e => ⟨q.keep D _ e no, (fun z => by
      rcases q.zn D z with z | z | z
      · exact nz z
      · exact no z
      · rw [e] at z; cases z), (fun o => by
      rcases q.on D o with o | o
      · exact no o
      · rw [e] at o; cases o)⟩
    have noW : ¬ Own (wipeE (envS s) vs) (wipe σ vs) D := fun o => by
      obtain ⟨j, u, _, e, q⟩ := wipe_own o
      exact noD ⟨j, u, e, q⟩
    obtain ⟨d3, nz3, no3⟩ := dStay s3 noW nzD2 hDD
    refine htst Z3 H3 σ3 _ h3 fun Z4 H4 s4 h4 => ?_
    obtain ⟨d4, nz4, no4⟩ := dStay s4 no3 nz3 d3
    -- back outside
    have back : ∀ {Zy : ZS} {Hy : Hp} {envy : En} {sy : S}, Stp Z2 H'' (Own (wipeE (envS s) vs) (wipe σ vs)) Zy Hy (Own envy σ3) → Hld X.K Zy Hy σ3 envy → wipeE envy vs = wipeE (envS sy) vs → (∀ i ∈ vs, (envS sy)[i]? = (envS s)[i]?) →
        Hld X.K Zy Hy σ (envS sy) ∧ Stp Z2 H'' (Own (envS s) σ) Zy Hy (Own (envS sy) σ) := fun {Zy Hy envy sy} q hy w v => h2.unwipe q hy f3' w v (by rw [hN, hN])
    have kz3 : ∀ {Zy : ZS} {Hy : Hp} {Oy : ZS}, Stp Z2 H'' (Own (envS s) σ) Zy Hy Oy → KeepZ Z1 H1 Hy ∧ ∀ a, Z1 a → Zy a := fun {Zy Hy Oy} q =>
      ⟨fun b u z e => q.keep b u (kz2 b u (zm1 b z) (kz1 b u z e)) fun o => h2.oz o (s2.zm b (zm1 b z)), fun a z => q.zm a (s2.zm a (zm1 a z))⟩
    cases hp : p s xi with
    | false =>
      rw [if_neg (by decide)]
      obtain ⟨h5, s5⟩ := back (sy := s) (s3.trans s4) h4 hwx fun _ _ => rfl
      obtain ⟨d5, nz5, no5⟩ := dStay s5 noD nzD2 hDD
      obtain ⟨kz5, zm5⟩ := kz3 s5
      refine ⟨s, Z4, dn, acc, ?_, ?_, by omega, ?_, zm5, kz5, h5, d5, ?_, nz5, no5⟩
      · have q : lcL p g s (xi :: l.drop (i + 1)) = lcL p g s (l.drop (i + 1)) := by
          show (if p s xi = true then _ else _) = _
          rw [hp]; rfl
        rw [e1, q]
      · have q := e2.2
        rw [if_neg (by rw [hp]; decide)] at q
        exact q
      · exact st.trans ((s2.trans s5).more fun a => a = D)
      · exact RepL.st (fun a z => s5.zm a (s2.zm a z)) (fun b u z e => s5.keep b u (kz2 b u z e) fun o => h2.oz o (s2.zm b z)) _ racc
    | true =>
      rw [if_pos rfl]
      have e22 := e2.2
      rw [if_pos hp] at e22
      obtain ⟨envy, hev, hwy, hvy⟩ := hel hp e22.1
      intro s'' H0' C' cl' fp'
      refine hev s'' H0' C' cl' fp' Z4 H4 σ3 _ h4 fun Z5 H5 w s5 h5 rw5 => ?_
      obtain ⟨h6, s6⟩ := back (sy := (g s xi).2) ((s3.trans s4).trans s5) h5 hwy hvy
      obtain ⟨d6, nz6, no6⟩ := dStay s6 noD nzD2 hDD
      obtain ⟨kz6, zm6⟩ := kz3 s6
      have racc5 : RepL X.K Z5 H5 (dn.map encB) acc := RepL.st (fun a z => s6.zm a (s2.zm a z)) (fun b u z e => s6.keep b u (kz2 b u z e) fun o => h2.oz o (s2.zm b z)) _ racc
      have hlen := racc5.length
      rw [List.length_map] at hlen
      have hsz : acc.length < sizeLine := by omega
      refine ⟨acc, d6, hsz, ?_⟩
      obtain ⟨h7, zk7⟩ := h6.bump (o := .lst (acc ++ [w])) d6 nz6 no6
      refine ⟨(g s xi).2, Z5, dn ++ [(g s xi).1], acc ++ [w], ?_, e22.2, by rw [List.length_append, List.length_singleton]; omega, ?_, zm6, fun b u z e => zk7 b u (zm6 b z) (kz6 b u z e), h7, upd_same, ?_, nz6, no6⟩
      · have q : lcL p g s (xi :: l.drop (i + 1)) = ((g s xi).1 :: (lcL p g (g s xi).2 (l.drop (i + 1))).1, (lcL p g (g s xi).2 (l.drop (i + 1))).2) := by
          show (if p s xi = true then _ else _) = _
          rw [if_pos hp]
        rw [e1, q, List.append_assoc]; rfl
      · have q := st.trans ((s2.trans s6).more fun a => a = D)
        exact q.trans ⟨fun a o e n => by rw [upd_ne (fun z => n (.inr z))]; exact e, fun _ z => z, fun _ z => .inl z, fun _ z => .inl z, fun a o e => by
          by_cases z : a = D
          · exact ⟨_, by rw [z]; exact upd_same⟩
          · exact ⟨o, by rw [upd_ne z]; exact e⟩⟩
      · rw [List.map_append]
        have racc7 := RepL.st (fun _ z => z) zk7 _ racc5
        exact RepL.append racc7 (RepL.one (Rep.st (fun _ z => z) zk7 _ rw5))
  · left
    have ei : i = l.length := by omega
    subst ei
    refine ⟨by have := it.stop H' kz1; rwa [List.length_map] at this, ?_⟩
    rw [List.drop_length] at e1
    have e3 : lcL p g s0 l = (dn, s) := by rw [e1]; simp [lcL]
    rw [e3] at k
    exact k Z' H' D (st.sub fun a o => .inl o) hh ⟨acc, ⟨hacc, by have := racc.length; rw [List.length_map] at this; omega⟩, racc⟩ nzD noD hD0
end
end VL

/-! VL9: defs, their calls, the law. -/
namespace VL
open PySem PySem.Spec PyProof.Rows L2

/-- an argument: a value, or a container that is lent -/
inductive Arg where | im (v : Val) | mu (v : Val)
def ArgRep (K : PySem.W.Frag) (Z : ZS) (H : Hp) : Arg → V → Prop
  | .im v, w => Rep K Z H v w
  | .mu v, w => ∃ b, w = .ref b ∧ Top K Z H v b ∧ ¬ Z b
def MuA (args : List Arg) (ws : List V) : ZS := fun a => ∃ (i : Nat) (v : Val), args[i]? = some (Arg.mu v) ∧ ws[i]? = some (V.ref a)
structure ArgsOk (K : PySem.W.Frag) (Z : ZS) (H : Hp) (args : List Arg) (ws : List V) : Prop where
  len : args.length = ws.length
  rel : ∀ (i : Nat) (a : Arg) (w : V), args[i]? = some a → ws[i]? = some w → ArgRep K Z H a w
  inj : ∀ (i j : Nat) (v u : Val) (a : Addr), args[i]? = some (Arg.mu v) → args[j]? = some (Arg.mu u) → ws[i]? = some (V.ref a) → ws[j]? = some (V.ref a) → i = j
  zd : ∀ a, Z a → ∃ o, H a = some o
/-- what a def does: arguments, what is handed back, the arguments behind it -/
abbrev Rel := List Arg → Rt → List Arg → Prop
def Backs (K : PySem.W.Frag) (Z : ZS) (H : Hp) (outs : List Arg) (ws : List V) : Prop := ∀ (i : Nat) (v : Val) (a : Addr), outs[i]? = some (Arg.mu v) → ws[i]? = some (V.ref a) → Top K Z H v a ∧ ¬ Z a
/-- the places of outs that are lent are those of args -/
def SameMu (args outs : List Arg) : Prop := ∀ (i : Nat) (v : Val), args[i]? = some (Arg.mu v) → ∃ v', outs[i]? = some (Arg.mu v')
def SpOf (K : PySem.W.Frag) (R : Rel) : Sp := fun ws H Q E => ∃ (Z : ZS) (args : List Arg) (r : Rt) (outs : List Arg), R args r outs ∧ ArgsOk K Z H args ws ∧
  ∀ Z' H' w, Stp Z H (MuA args ws) Z' H' (fun a => MuA args ws a ∨ (w = .ref a ∧ ∃ v, r = .ow v)) → (∀ a, Z' a → ∃ o, H' a = some o) → Backs K Z' H' outs ws → RepR K Z' H' H (MuA args ws) r w → Q w H'

/-! ### a def's body -/
def slA : Arg → Sl | .im v => .im v | .mu v => .ow v
def env0 (n : Nat) (args : List Arg) : En := args.map slA ++ List.replicate (n - args.length) .no
def muI (args : List Arg) : List Nat := (List.range args.length).filter fun i => match args[i]? with | some (.mu _) => true | _ => false
def OutOk (args : List Arg) (r : Rt) (outs : List Arg) : Out → Prop
  | .rt r' env => r' = r ∧ ∀ (i : Nat) (v : Val), outs[i]? = some (Arg.mu v) → env[i]? = some (Sl.ow v)
  | .nx env => r = .im .non ∧ ∀ (i : Nat) (v : Val), outs[i]? = some (Arg.mu v) → env[i]? = some (Sl.ow v)
  | _ => False
theorem start_get {N : List Str} {ws : List V} {i : Nat} {w : V} (h : ws[i]? = some w) : (L2.start N ws)[i]? = some (some w) := by
  unfold L2.start
  have hi := (List.getElem?_eq_some_iff.mp h).1
  rw [List.getElem?_append_left (by rw [List.length_map]; exact hi), List.getElem?_map, h]; rfl
theorem env0_get {n : Nat} {args : List Arg} {i : Nat} {s : Sl} (h : (env0 n args)[i]? = some s) : (∃ a, args[i]? = some a ∧ s = slA a) ∨ s = .no := by
  unfold env0 at h
  by_cases hi : i < (args.map slA).length
  · rw [List.getElem?_append_left hi, List.getElem?_map] at h
    obtain ⟨a, e, q⟩ := Option.map_eq_some_iff.mp h
    exact .inl ⟨a, e, q.symm⟩
  · rw [List.getElem?_append_right (by omega)] at h
    rw [List.getElem?_replicate] at h
    split at h
    · exact .inr (Option.some.inj h).symm
    · cases h
section
variable {P : Program} {w : World} {K : PySem.W.Frag} {mg : Str → Option Value} {base : Heap}
theorem ArgsOk.hld {Z : ZS} {H : Hp} {args : List Arg} {ws : List V} {N : List Str} (h : ArgsOk K Z H args ws) (hn : args.length ≤ N.length) : Hld K Z H (L2.start N ws) (env0 N.length args) ∧ (∀ a, Own (env0 N.length args) (L2.start N ws) a ↔ MuA args ws a) := by
  have wsOf : ∀ {i : Nat} {a : Arg}, args[i]? = some a → ∃ w, ws[i]? = some w := fun {i a} e => by
    have hi := (List.getElem?_eq_some_iff.mp e).1
    exact ⟨_, List.getElem?_eq_getElem (by rw [← h.len]; exact hi)⟩
  have own : ∀ {i : Nat} {v : Val}, (env0 N.length args)[i]? = some (Sl.ow v) → args[i]? = some (Arg.mu v) := fun {i v} e => by
    rcases env0_get e with ⟨a, e1, e2⟩ | e1
    · cases a with
      | im u => cases e2
      | mu u => cases e2; exact e1
    · cases e1
  have gs : ∀ {i : Nat} {a : Addr} {v : Val}, args[i]? = some (Arg.mu v) → (L2.start N ws)[i]? = some (some (V.ref a)) → ws[i]? = some (V.ref a) := fun {i a v} e q => by
    obtain ⟨w, hw⟩ := wsOf e
    rw [start_get hw] at q
    cases q; exact hw
  refine ⟨⟨fun i s e => ?_, fun i j v u a e1 e2 q1 q2 => ?_, h.zd, ?_⟩, fun a => ⟨fun ⟨i, v, e, q⟩ => ⟨i, v, own e, gs (own e) q⟩, fun ⟨i, v, e, q⟩ => ⟨i, v, ?_, start_get q⟩⟩⟩
  · rcases env0_get e with ⟨a, e1, e2⟩ | e1
    · obtain ⟨w, hw⟩ := wsOf e1
      have r := h.rel i a w e1 hw
      cases a with
      | im v => cases e2; exact ⟨w, start_get hw, r⟩
      | mu v =>
        cases e2
        obtain ⟨b, rfl, t, nz⟩ := r
        exact ⟨b, start_get hw, t, nz⟩
    · cases e1; trivial
  · exact h.inj i j v u a (own e1) (own e2) (gs (own e1) q1) (gs (own e2) q2)
  · unfold env0 L2.start
    rw [List.length_append, List.length_append, List.length_map, List.length_map, List.length_replicate, List.length_replicate, h.len]
  · unfold env0
    have hi := (List.getElem?_eq_some_iff.mp e).1
    rw [List.getElem?_append_left (by rw [List.length_map]; exact hi), List.getElem?_map, e]; rfl
theorem muI_mem {args : List Arg} {i : Nat} {v : Val} (e : args[i]? = some (Arg.mu v)) : i ∈ muI args := by
  have hi := (List.getElem?_eq_some_iff.mp e).1
  refine List.mem_filter.mpr ⟨List.mem_range.mpr hi, ?_⟩
  rw [e]
/-- THE RULE for a def: what its body does for each arguments that its relation speaks of -/
theorem def_ok {x qual : Str} {st : Stmt} {f : Addr} {fd : FuncData} {N ps : List Str} {k : Nat} {R : Rel} (F : Fun K x qual st f fd) (S : FnScope N ps (defScope st)) (hps : ps.length ≤ N.length) (hlen : ∀ args r outs, R args r outs → args.length = ps.length ∧ outs.length = args.length ∧ SameMu args outs ∧ SameMu outs args)
    (hb : ∀ (cdv : Value) (A : Around) (outer : List Env) (s : Shared) (H : Hp) (E : XK), Room k (A.deeper (envOfC qual (defScope st) s.heap.objs.size f cdv)) → ∀ args r outs, R args r outs →
      ∃ out, EvSs (cxOf CX0 P w K mg base N qual (defScope st) f cdv A outer s H E).nox (muI args) (defBody st) (env0 N.length args) out ∧ OutOk args r outs out) :
    FnOk P w K mg base CX0 (k + 1) f fd ps (SpOf K R) := by
  refine F.ok S (fun ws H Q E h => ?_) (fun cdv A outer s H ws Q E hr h => ?_)
  · obtain ⟨Z, args, r, outs, hR, ha, _⟩ := h
    rw [← ha.len]; exact (hlen args r outs hR).1
  · obtain ⟨Z, args, r, outs, hR, ha, q⟩ := h
    obtain ⟨l1, l2, sm, sm2⟩ := hlen args r outs hR
    obtain ⟨out, hbd, ho⟩ := hb cdv A outer s H E hr args r outs hR
    refine ⟨_, pss_wp _, ?_⟩
    obtain ⟨hh, ow⟩ := ha.hld (N := N) (by omega)
    have backs : ∀ {Z' : ZS} {H' : Hp} {σ' : Stt} {env' : En}, Hld K Z' H' σ' env' → Fix (muI args) (L2.start N ws) σ' → (∀ (i : Nat) (v : Val), outs[i]? = some (Arg.mu v) → env'[i]? = some (Sl.ow v)) → Backs K Z' H' outs ws ∧ ∀ a, MuA args ws a → Own env' σ' a := fun {Z' H' σ' env'} h' f' o' => by
      have sg : ∀ (i : Nat) (a : Addr) (v : Val), args[i]? = some (Arg.mu v) → ws[i]? = some (V.ref a) → σ'[i]? = some (some (V.ref a)) := fun i a v e z => by
        rw [f' i (muI_mem e)]; exact start_get z
      refine ⟨fun i v a e z => ?_, fun a ⟨i, v, e, z⟩ => ?_⟩
      · obtain ⟨v0, e0⟩ := sm2 i v e
        obtain ⟨b, s', t, nz⟩ := h'.own (o' i v e)
        rw [sg i a v0 e0 z] at s'; cases s'
        exact ⟨t, nz⟩
      · obtain ⟨v', e'⟩ := sm i v e
        exact ⟨i, v', o' i v' e', sg i a v e z⟩
    refine hbd Z H _ _ hh ?_
    cases out with
    | bk env => exact ho.elim
    | ct env => exact ho.elim
    | nx env' =>
      obtain ⟨rfl, o'⟩ := ho
      refine fun Z' H' σ' s' h' f' => ?_
      obtain ⟨bk, mo⟩ := backs h' f' o'
      refine q Z' H' .non ⟨fun a o e n => s'.keep a o e fun z => n ((ow a).mp z), s'.zm, fun a z => ?_, fun a z => ?_, s'.dom⟩ h'.zd bk (show Rep _ _ _ _ _ from rep_non)
      · rcases s'.zn a z with z | z | z
        · exact .inl z
        · exact .inr (.inl ((ow a).mp z))
        · exact .inr (.inr z)
      · rcases z with z | ⟨z, _⟩
        · exact .inl z
        · cases z
    | rt r' env' =>
      obtain ⟨rfl, o'⟩ := ho
      refine fun Z' H' σ' w' s' h' f' rr => ?_
      obtain ⟨bk, mo⟩ := backs h' f' o'
      refine q Z' H' w' ⟨fun a o e n => s'.keep a o e fun z => n ((ow a).mp z), s'.zm, fun a z => ?_, fun a z => ?_, s'.dom⟩ h'.zd bk ?_
      · rcases s'.zn a z with z | z | z
        · exact .inl z
        · exact .inr (.inl ((ow a).mp z))
        · exact .inr (.inr z)
      · rcases z with z | z
        · exact .inl z
        · rcases s'.on a (.inr z) with y | y
          · exact .inl ((ow a).mp y)
          · exact .inr y
      · cases r' with
        | im v => exact rr
        | ow v => obtain ⟨a, e, t, nz, no⟩ := rr; exact ⟨a, e, t, nz, fun m => no (mo a m)⟩
end

/-! ### a call -/
/-- the operands as arguments; the slots behind the call -/
inductive AF : En → List Opd → List Arg → List Arg → En → Prop
  | nil {env : En} : AF env [] [] [] env
  | im {env env2 : En} {os : List Opd} {args outs : List Arg} {v : Val} (h : AF env os args outs env2) : AF env (.val v :: os) (.im v :: args) (.im v :: outs) env2
  | mu {env env2 : En} {os : List Opd} {args outs : List Arg} {j : Nat} {v v' : Val} (e : env[j]? = some (Sl.ow v)) (n : ∀ o ∈ os, o ≠ .slot j) (h : AF env os args outs env2) : AF env (.slot j :: os) (.mu v :: args) (.mu v' :: outs) (env2.set j (.ow v'))
section
variable {K : PySem.W.Frag} {Z Z' : ZS} {H H' : Hp} {σ : Stt} {env env2 : En} {os : List Opd} {args outs : List Arg} {ws : List V}
theorem AF.len (h : AF env os args outs env2) : env2.length = env.length := by
  induction h with
  | nil => rfl
  | im h ih => exact ih
  | mu e n h ih => rw [List.length_set]; exact ih
/-- slots: lent ones, others -/
theorem AF.get (h : AF env os args outs env2) : ∀ (i : Nat), (∃ (k : Nat) (v v' : Val), os[k]? = some (Opd.slot i) ∧ args[k]? = some (Arg.mu v) ∧ outs[k]? = some (Arg.mu v') ∧ env[i]? = some (Sl.ow v) ∧ env2[i]? = some (Sl.ow v')) ∨ ((∀ k : Nat, os[k]? ≠ some (Opd.slot i)) ∧ env2[i]? = env[i]?) := by
  induction h with
  | nil => exact fun i => .inr ⟨fun k => by simp, rfl⟩
  | im h ih =>
    intro i
    rcases ih i with ⟨k, v, v', a, b, c, d⟩ | ⟨a, b⟩
    · exact .inl ⟨k + 1, v, v', a, b, c, d⟩
    · refine .inr ⟨fun k => ?_, b⟩
      cases k with
      | zero => intro z; cases z
      | succ k => exact a k
  | @mu env2 os args outs j v v' e n h ih =>
    intro i
    by_cases hij : j = i
    · subst hij
      refine .inl ⟨0, v, v', rfl, rfl, rfl, e, List.getElem?_set_self ?_⟩
      rw [h.len]; exact (List.getElem?_eq_some_iff.mp e).1
    · rw [List.getElem?_set_ne hij]
      rcases ih i with ⟨k, x, x', a, b, c, d⟩ | ⟨a, b⟩
      · exact .inl ⟨k + 1, x, x', a, b, c, d⟩
      · refine .inr ⟨fun k => ?_, b⟩
        cases k with
        | zero => intro z; cases z; exact hij rfl
        | succ k => exact a k
theorem AF.args_mu (h : AF env os args outs env2) : ∀ (k : Nat) (v : Val), args[k]? = some (Arg.mu v) → ∃ j, os[k]? = some (Opd.slot j) ∧ env[j]? = some (Sl.ow v) := by
  induction h with
  | nil => intro k v e; simp at e
  | im h ih =>
    intro k v e
    cases k with
    | zero => cases e
    | succ k => exact ih k v e
  | mu e0 n h ih =>
    intro k v e
    cases k with
    | zero => cases e; exact ⟨_, rfl, e0⟩
    | succ k => exact ih k v e
theorem AF.args_im (h : AF env os args outs env2) : ∀ (k : Nat) (v : Val), args[k]? = some (Arg.im v) → os[k]? = some (Opd.val v) := by
  induction h with
  | nil => intro k v e; simp at e
  | im h ih =>
    intro k v e
    cases k with
    | zero => cases e; rfl
    | succ k => exact ih k v e
  | mu e0 n h ih =>
    intro k v e
    cases k with
    | zero => cases e
    | succ k => exact ih k v e
theorem AF.outs_mu (h : AF env os args outs env2) : ∀ (k : Nat) (v : Val), outs[k]? = some (Arg.mu v) → ∃ v', args[k]? = some (Arg.mu v') := by
  induction h with
  | nil => intro k v e; simp at e
  | im h ih =>
    intro k v e
    cases k with
    | zero => cases e
    | succ k => exact ih k v e
  | mu e0 n h ih =>
    intro k v e
    cases k with
    | zero => exact ⟨_, rfl⟩
    | succ k => exact ih k v e
theorem AF.uniq (h : AF env os args outs env2) : ∀ (k l j : Nat), os[k]? = some (Opd.slot j) → os[l]? = some (Opd.slot j) → k = l := by
  induction h with
  | nil => intro k l j e; simp at e
  | im h ih =>
    intro k l j e1 e2
    cases k with
    | zero => cases e1
    | succ k =>
      cases l with
      | zero => cases e2
      | succ l => rw [ih k l j e1 e2]
  | mu e0 n h ih =>
    intro k l j e1 e2
    cases k with
    | zero =>
      cases e1
      cases l with
      | zero => rfl
      | succ l => exact absurd rfl (n _ (List.mem_of_getElem? e2))
    | succ k =>
      cases l with
      | zero => cases e2; exact absurd rfl (n _ (List.mem_of_getElem? e1))
      | succ l => rw [ih k l j e1 e2]
theorem AF.lens (h : AF env os args outs env2) : os.length = args.length ∧ outs.length = args.length := by
  induction h with
  | nil => exact ⟨rfl, rfl⟩
  | im h ih => simp [ih.1, ih.2]
  | mu e n h ih => simp [ih.1, ih.2]
theorem RepOs.get : ∀ {os : List Opd} {ws : List V} {k : Nat} {o : Opd}, RepOs K Z H σ os ws → os[k]? = some o → ∃ w, ws[k]? = some w ∧ RepO K Z H σ o w
  | [], _, _, _, _, e => by simp at e
  | p :: os, ws, 0, o, ⟨w, r, e1, h1, h2⟩, e => by cases e; exact ⟨w, by rw [e1]; rfl, h1⟩
  | p :: os, ws, k + 1, o, ⟨w, r, e1, h1, h2⟩, e => by
    obtain ⟨w', a, b⟩ := RepOs.get (k := k) (o := o) h2 (by simpa using e)
    exact ⟨w', by rw [e1]; simpa using a, b⟩
theorem RepOs.len : ∀ {os : List Opd} {ws : List V}, RepOs K Z H σ os ws → os.length = ws.length
  | [], ws, h => by have h' : ws = [] := h; subst h'; rfl
  | p :: os, ws, ⟨w, r, e1, h1, h2⟩ => by rw [e1, List.length_cons, List.length_cons, RepOs.len h2]
theorem AF.ok (h : AF env os args outs env2) (hh : Hld K Z H σ env) (r : RepOs K Z H σ os ws) : ArgsOk K Z H args ws ∧ (∀ a, MuA args ws a → Own env σ a) := by
  have at_ : ∀ {k : Nat} {v : Val} {w : V}, args[k]? = some (Arg.mu v) → ws[k]? = some w → ∃ j b, os[k]? = some (Opd.slot j) ∧ env[j]? = some (Sl.ow v) ∧ w = .ref b ∧ σ[j]? = some (some (V.ref b)) ∧ Top K Z H v b ∧ ¬ Z b := fun {k v w} e q => by
    obtain ⟨j, e1, e2⟩ := h.args_mu k v e
    obtain ⟨w', q', rr⟩ := r.get e1
    rw [q] at q'; cases q'
    obtain ⟨b, s, t, nz⟩ := hh.own e2
    have rr' : σ[j]? = some (some w) := rr
    rw [s] at rr'; cases rr'
    exact ⟨j, b, e1, e2, rfl, s, t, nz⟩
  refine ⟨⟨by rw [← h.lens.1]; exact r.len, fun i a w e q => ?_, fun i j v u a e1 e2 q1 q2 => ?_, hh.zd⟩, fun a ⟨i, v, e, q⟩ => ?_⟩
  · cases a with
    | im v =>
      obtain ⟨w', q', rr⟩ := r.get (h.args_im i v e)
      rw [q] at q'; cases q'
      exact rr
    | mu v =>
      obtain ⟨j, b, _, _, e3, _, t, nz⟩ := at_ e q
      exact ⟨b, e3, t, nz⟩
  · obtain ⟨j1, b1, o1, s1, w1, g1, _⟩ := at_ e1 q1
    obtain ⟨j2, b2, o2, s2, w2, g2, _⟩ := at_ e2 q2
    cases w1; cases w2
    have ej := hh.inj j1 j2 v u a s1 s2 g1 g2
    subst ej
    exact h.uniq i j j1 o1 o2
  · obtain ⟨j, b, _, s, w', g, _⟩ := at_ e q
    cases w'
    exact ⟨j, v, s, g⟩
theorem AF.back (h : AF env os args outs env2) (hh : Hld K Z H σ env) (r : RepOs K Z H σ os ws) {O' : ZS} (s : Stp Z H (MuA args ws) Z' H' O') (zd : ∀ a, Z' a → ∃ o, H' a = some o) (bk : Backs K Z' H' outs ws) :
    Hld K Z' H' σ env2 ∧ Stp Z H (Own env σ) Z' H' (Own env2 σ) := by
  obtain ⟨_, mo⟩ := h.ok hh r
  have kz : ∀ b u, Z b → H b = some u → H' b = some u := fun b u z e => s.keep b u e fun o => hh.oz (mo b o) z
  have wsAt : ∀ {k : Nat} {i : Nat}, os[k]? = some (Opd.slot i) → ∃ w, ws[k]? = some w ∧ σ[i]? = some (some w) := fun {k i} e => r.get e
  have lentA : ∀ {k i : Nat} {v : Val} {a : Addr}, os[k]? = some (Opd.slot i) → args[k]? = some (Arg.mu v) → σ[i]? = some (some (V.ref a)) → ws[k]? = some (V.ref a) := fun {k i v a} e1 _ q => by
    obtain ⟨w, q1, q2⟩ := wsAt e1
    rw [q] at q2; cases q2; exact q1
  have own2 : ∀ a, Own env2 σ a → Own env σ a := fun a ⟨i, v, e, q⟩ => by
    rcases h.get i with ⟨k, x, x', _, _, _, d, _⟩ | ⟨_, d⟩
    · exact ⟨i, x, d, q⟩
    · exact ⟨i, v, by rw [← d]; exact e, q⟩
  have notLent : ∀ {i : Nat} {v : Val} {a : Addr}, (∀ k : Nat, os[k]? ≠ some (Opd.slot i)) → env[i]? = some (Sl.ow v) → σ[i]? = some (some (V.ref a)) → ¬ MuA args ws a := fun {i v a} n e q ⟨k, u, e1, q1⟩ => by
    obtain ⟨j, o1, o2⟩ := h.args_mu k u e1
    obtain ⟨w, z1, z2⟩ := wsAt o1
    rw [q1] at z1; cases z1
    have ej := hh.inj i j v u a e o2 q z2
    subst ej
    exact n k o1
  refine ⟨⟨fun i sl e => ?_, fun i j v u a e1 e2 q1 q2 => ?_, zd, by rw [h.len]; exact hh.len⟩, ⟨fun a o e n => s.keep a o e fun z => n (mo a z), s.zm, fun a z => ?_, fun a z => .inl (own2 a z), s.dom⟩⟩
  · rcases h.get i with ⟨k, x, x', o1, a1, u1, d, e2⟩ | ⟨n, d⟩
    · rw [e2] at e; cases e
      obtain ⟨b, s1, _⟩ := hh.own d
      obtain ⟨t, nz⟩ := bk k x' b u1 (lentA o1 a1 s1)
      exact ⟨b, s1, t, nz⟩
    · rw [d] at e
      have q := hh.sl i sl e
      cases sl with
      | no => trivial
      | im v => obtain ⟨w, sw, rr⟩ := (show ∃ w, σ[i]? = some (some w) ∧ Rep K Z H v w from q); exact ⟨w, sw, Rep.st s.zm kz v rr⟩
      | ow v =>
        obtain ⟨a, sa, t, nz⟩ := (show ∃ a, σ[i]? = some (some (V.ref a)) ∧ Top K Z H v a ∧ ¬ Z a from q)
        have nm := notLent n e sa
        refine ⟨a, sa, Top.st s.zm kz (fun o x => s.keep a o x nm) t, fun z => ?_⟩
        rcases s.zn a z with z | z | z
        · exact nz z
        · exact nm z
        · obtain ⟨o, x⟩ := t.there; rw [z] at x; cases x
  · have get : ∀ {i : Nat} {v : Val}, env2[i]? = some (Sl.ow v) → ∃ x, env[i]? = some (Sl.ow x) := fun {i v} e => by
      rcases h.get i with ⟨k, x, x', _, _, _, d, _⟩ | ⟨_, d⟩
      · exact ⟨x, d⟩
      · exact ⟨v, by rw [← d]; exact e⟩
    obtain ⟨x, d1⟩ := get e1
    obtain ⟨y, d2⟩ := get e2
    exact hh.inj i j x y a d1 d2 q1 q2
  · rcases s.zn a z with z | z | z
    · exact .inl z
    · exact .inr (.inl (mo a z))
    · exact .inr (.inr z)
end
section
variable {X : Cx} {e : Expr} {es : List Expr} {env env1 env2 : En} {os : List Opd} {args outs : List Arg} {v : Val} {R : Rel}
/-- a call of a def that hands back a value -/
theorem ev_call (p : PE X e (tCall (SpOf X.K R) [] E0 (wpA X es))) (ha : EvA X es env os env1) (haf : AF env1 os args outs env2) (hR : R args (.im v) outs) : Ev X e env (.val v) env2 := fun Z H σ Q hH k => by
  refine wp_pe p ?_
  refine ha Z H σ _ hH fun Z1 H1 ws s1 h1 r1 => ?_
  obtain ⟨ok, mo⟩ := haf.ok h1 r1
  show SpOf X.K R (ws ++ []) H1 Q E0
  rw [List.append_nil]
  refine ⟨Z1, args, .im v, outs, hR, ok, fun Z2 H2 w s2 zd bk rr => ?_⟩
  obtain ⟨h3, s3⟩ := haf.back h1 r1 s2 zd bk
  exact k Z2 H2 w (s1.trans s3) h3 rr
/-- .. a new container -/
theorem en_call (p : PE X e (tCall (SpOf X.K R) [] E0 (wpA X es))) (ha : EvA X es env os env1) (haf : AF env1 os args outs env2) (hR : R args (.ow v) outs) : EvN X e env v env2 := fun Z H σ Q hH k => by
  refine wp_pe p ?_
  refine ha Z H σ _ hH fun Z1 H1 ws s1 h1 r1 => ?_
  obtain ⟨ok, mo⟩ := haf.ok h1 r1
  show SpOf X.K R (ws ++ []) H1 Q E0
  rw [List.append_nil]
  refine ⟨Z1, args, .ow v, outs, hR, ok, fun Z2 H2 w s2 zd bk rr => ?_⟩
  obtain ⟨h3, s3⟩ := haf.back h1 r1 s2 zd bk
  obtain ⟨a, rfl, t, nz, no⟩ := rr
  have fr : H1 a = none := by
    rcases s2.on a (.inr ⟨rfl, v, rfl⟩) with o | o
    · exact absurd o no
    · exact o
  refine k Z2 H2 a (s1.trans s3) h3 t nz (fun o => ?_) (s1.back fr)
  rcases s3.on a o with o' | _
  · obtain ⟨u, x⟩ := h1.od o'; rw [fr] at x; cases x
  · -- the call's own new object is in no slot
    obtain ⟨i, u, e1, q1⟩ := o
    rcases haf.get i with ⟨k, x, x', o1, a1, u1, d, e2⟩ | ⟨n, d⟩
    · obtain ⟨b, s', t', _⟩ := h1.own d
      rw [q1] at s'; cases s'
      obtain ⟨y, z⟩ := t'.there
      rw [fr] at z; cases z
    · rw [d] at e1
      obtain ⟨b, s', t', _⟩ := h1.own e1
      rw [q1] at s'; cases s'
      obtain ⟨y, z⟩ := t'.there
      rw [fr] at z; cases z
end

/-! ### the law -/
/-- the law's relation: a script gives True -/
def RLaw (n : Nat) : Rel := fun args r outs => ∃ ns : List Int, ns.length ≤ n ∧ args = [.im (.lst (ns.map Val.int))] ∧ r = .im (.bl true) ∧ outs = args
theorem law_sp {K : PySem.W.Frag} {n : Nat} {H : Hp} {a : Addr} {ns : List Int} (hn : n ≤ sizeLine) (hl : ns.length ≤ n) (hO : Only H) (hS : SqL K H a (ns.map V.int)) : SpOf K (RLaw n) [.ref a] H (fun v _ => v = .bl true) fun _ _ _ => False := by
  have hz : (ns.map V.int).length ≤ sizeLine := by rw [List.length_map]; omega
  have nl : NL K (fun b => b = a ∧ ∃ o, H a = some o) H a (ns.map V.int) := by
    rcases hS with (h | ⟨o', h⟩) | h
    · exact .inl ⟨⟨rfl, _, h⟩, .inl h, hz⟩
    · exact .inl ⟨⟨rfl, _, h⟩, .inr ⟨o', h⟩, hz⟩
    · exact .inr h
  refine ⟨fun b => b = a ∧ ∃ o, H a = some o, [.im (.lst (ns.map Val.int))], .im (.bl true), [.im (.lst (ns.map Val.int))], ⟨ns, hl, rfl, rfl, rfl⟩, ⟨rfl, fun i x w e q => ?_, fun i j v u b e => ?_, fun b z => by rw [z.1]; exact z.2⟩, fun Z' H' w s zd bk rr => rep_bl' (K := K) (Z := Z') (H := H') rr⟩
  · cases i with
    | zero =>
      cases e; cases q
      show Rep _ _ _ _ _
      simp only [Rep]
      exact ⟨a, _, rfl, nl, RepL.ints ns⟩
    | succ i => simp at e
  · cases i with
    | zero => cases e
    | succ i => simp at e
end VL

/-! VL10: what typed proofs use. -/
namespace VL
open PySem PySem.Spec PyProof.Rows L2

/-! ### encodings -/
def encO {α : Type} (f : α → Val) : Option α → Val
  | none => .non
  | some x => f x
def encT {α : Type} (f : α → Val) (xs : List α) : Val := .tup (xs.map f)
def encL {α : Type} (f : α → Val) (xs : List α) : Val := .lst (xs.map f)
def enc2 {α β : Type} (f : α → Val) (g : β → Val) (p : α × β) : Val := .tup [f p.1, g p.2]
def enc3 {α β γ : Type} (f : α → Val) (g : β → Val) (h : γ → Val) (p : α × β × γ) : Val := .tup [f p.1, g p.2.1, h p.2.2]
def enc4 {α β γ δ : Type} (f : α → Val) (g : β → Val) (h : γ → Val) (k : δ → Val) (p : α × β × γ × δ) : Val := .tup [f p.1, g p.2.1, h p.2.2.1, k p.2.2.2]
def encU (_ : Unit) : Val := .non

/-- an encoding that == reads rightly, of so much depth at most -/
structure Lw {α : Type} [DecidableEq α] (f : α → Val) (n : Nat) : Prop where
  eq : ∀ a b, veq (f a) (f b) = decide (a = b)
  pl : ∀ a, pl (f a) = true
  lay : ∀ a, (dat (f a)).canLay0 = true
  dep : ∀ a, (dat (f a)).depth ≤ n
theorem Lw.good {α : Type} [DecidableEq α] {f : α → Val} {n : Nat} (h : Lw f n) (hn : n ≤ 64) (a : α) : Good (f a) := ⟨h.pl a, by
  unfold SeqAt.shaped
  rw [h.lay a, Bool.true_and]
  exact decide_eq_true (Nat.le_trans (h.dep a) hn)⟩
theorem dec_and {p q : Prop} [Decidable p] [Decidable q] : (decide p && decide q) = decide (p ∧ q) := by
  by_cases h : p <;> by_cases h' : q <;> simp [h, h']
theorem lw_int : Lw Val.int 0 := ⟨fun a b => by simp only [veq, dat, PyData.eqv]; exact (Bool.beq_eq_decide_eq a b), fun _ => by simp only [VL.pl], fun _ => by simp only [dat, PyData.canLay0], fun _ => by simp only [dat, PyData.depth]; exact Nat.le_refl _⟩
theorem lw_bl : Lw Val.bl 0 := ⟨fun a b => by simp only [veq, dat, PyData.eqv]; exact (Bool.beq_eq_decide_eq a b), fun _ => by simp only [VL.pl], fun _ => by simp only [dat, PyData.canLay0], fun _ => by simp only [dat, PyData.depth]; exact Nat.le_refl _⟩
theorem eqvAll_map {α : Type} [DecidableEq α] {f : α → Val} {n : Nat} (h : Lw f n) : ∀ xs ys : List α, PyData.eqvAll (datL (xs.map f)) (datL (ys.map f)) = decide (xs = ys)
  | [], [] => by simp [datL, PyData.eqvAll]
  | [], y :: ys => by simp [datL, PyData.eqvAll]
  | x :: xs, [] => by simp [datL, PyData.eqvAll]
  | x :: xs, y :: ys => by
    simp only [List.map_cons, datL, PyData.eqvAll]
    have e : PyData.eqv (dat (f x)) (dat (f y)) = decide (x = y) := h.eq x y
    rw [e, eqvAll_map h xs ys, dec_and]
    simp only [List.cons.injEq]
theorem plL_map {α : Type} {f : α → Val} (h : ∀ a, pl (f a) = true) : ∀ xs : List α, plL (xs.map f) = true
  | [] => rfl
  | x :: xs => by simp only [List.map_cons, plL, h x, plL_map h xs, Bool.and_self]
theorem layL_map {α : Type} {f : α → Val} (h : ∀ a, (dat (f a)).canLay0 = true) : ∀ xs : List α, PyData.canLayAll0 (datL (xs.map f)) = true
  | [] => by simp only [List.map_nil, datL, PyData.canLayAll0]
  | x :: xs => by simp only [List.map_cons, datL, PyData.canLayAll0, h x, layL_map h xs, Bool.and_self]
theorem depL_map {α : Type} {f : α → Val} {n : Nat} (h : ∀ a, (dat (f a)).depth ≤ n) : ∀ xs : List α, PyData.depthAll (datL (xs.map f)) ≤ n
  | [] => by simp only [List.map_nil, datL, PyData.depthAll]; exact Nat.zero_le _
  | x :: xs => by
    have := h x
    have := depL_map h xs
    simp only [List.map_cons, datL, PyData.depthAll]
    omega
theorem lw_T {α : Type} [DecidableEq α] {f : α → Val} {n : Nat} (h : Lw f n) : Lw (encT f) (n + 1) := ⟨fun a b => by simp only [veq, encT, dat, PyData.eqv]; exact eqvAll_map h a b, fun a => by simp only [encT, VL.pl]; exact plL_map h.pl a,
  fun a => by simp only [encT, dat, PyData.canLay0]; exact layL_map h.lay a, fun a => by have := depL_map h.dep a; simp only [encT, dat, PyData.depth]; omega⟩
theorem lw_L {α : Type} [DecidableEq α] {f : α → Val} {n : Nat} (h : Lw f n) : Lw (encL f) (n + 1) := ⟨fun a b => by simp only [veq, encL, dat, PyData.eqv]; exact eqvAll_map h a b, fun a => by simp only [encL, VL.pl]; exact plL_map h.pl a,
  fun a => by simp only [encL, dat, PyData.canLay0]; exact layL_map h.lay a, fun a => by have := depL_map h.dep a; simp only [encL, dat, PyData.depth]; omega⟩
theorem lw_2 {α β : Type} [DecidableEq α] [DecidableEq β] {f : α → Val} {g : β → Val} {n m : Nat} (h : Lw f n) (h' : Lw g m) : Lw (enc2 f g) (max n m + 1) := ⟨fun a b => by
    have e1 : PyData.eqv (dat (f a.1)) (dat (f b.1)) = decide (a.1 = b.1) := h.eq _ _
    have e2 : PyData.eqv (dat (g a.2)) (dat (g b.2)) = decide (a.2 = b.2) := h'.eq _ _
    simp only [veq, enc2, dat, datL, PyData.eqv, PyData.eqvAll]
    rw [e1, e2, Bool.and_true, dec_and]
    obtain ⟨a1, a2⟩ := a
    obtain ⟨b1, b2⟩ := b
    simp only [Prod.mk.injEq], fun a => by simp only [enc2, VL.pl, plL, h.pl, h'.pl, Bool.and_self], fun a => by simp only [enc2, dat, datL, PyData.canLay0, PyData.canLayAll0, h.lay, h'.lay, Bool.and_self],
  fun a => by
    have := h.dep a.1
    have := h'.dep a.2
    simp only [enc2, dat, datL, PyData.depth, PyData.depthAll]
    omega⟩
theorem lw_3 {α β γ : Type} [DecidableEq α] [DecidableEq β] [DecidableEq γ] {f : α → Val} {g : β → Val} {k : γ → Val} {n m l : Nat} (h : Lw f n) (h' : Lw g m) (h'' : Lw k l) : Lw (enc3 f g k) (max n (max m l) + 1) := ⟨fun a b => by
    have e1 : PyData.eqv (dat (f a.1)) (dat (f b.1)) = decide (a.1 = b.1) := h.eq _ _
    have e2 : PyData.eqv (dat (g a.2.1)) (dat (g b.2.1)) = decide (a.2.1 = b.2.1) := h'.eq _ _
    have e3 : PyData.eqv (dat (k a.2.2)) (dat (k b.2.2)) = decide (a.2.2 = b.2.2) := h''.eq _ _
    simp only [veq, enc3, dat, datL, PyData.eqv, PyData.eqvAll]
    rw [e1, e2, e3, Bool.and_true, dec_and, dec_and]
    obtain ⟨a1, a2, a3⟩ := a
    obtain ⟨b1, b2, b3⟩ := b
    simp only [Prod.mk.injEq], fun a => by simp only [enc3, VL.pl, plL, h.pl, h'.pl, h''.pl, Bool.and_self], fun a => by simp only [enc3, dat, datL, PyData.canLay0, PyData.canLayAll0, h.lay, h'.lay, h''.lay, Bool.and_self],
  fun a => by
    have := h.dep a.1
    have := h'.dep a.2.1
    have := h''.dep a.2.2
    simp only [enc3, dat, datL, PyData.depth, PyData.depthAll]
    omega⟩
/-- an encoding that never is None -/
def Nn {α : Type} (f : α → Val) : Prop := ∀ a, isNon (f a) = false ∧ PyData.eqv (dat (f a)) .none = false ∧ PyData.eqv .none (dat (f a)) = false
theorem nn_int : Nn Val.int := fun a => ⟨rfl, by simp only [dat, PyData.eqv], by simp only [dat, PyData.eqv]⟩
theorem nn_bl : Nn Val.bl := fun a => ⟨rfl, by simp only [dat, PyData.eqv], by simp only [dat, PyData.eqv]⟩
theorem nn_str : Nn Val.str := fun a => ⟨rfl, by simp only [dat, PyData.eqv], by simp only [dat, PyData.eqv]⟩
theorem nn_T {α : Type} {f : α → Val} : Nn (encT f) := fun a => ⟨rfl, by simp only [encT, dat, PyData.eqv], by simp only [encT, dat, PyData.eqv]⟩
theorem nn_L {α : Type} {f : α → Val} : Nn (encL f) := fun a => ⟨rfl, by simp only [encL, dat, PyData.eqv], by simp only [encL, dat, PyData.eqv]⟩
theorem nn_2 {α β : Type} {f : α → Val} {g : β → Val} : Nn (enc2 f g) := fun a => ⟨rfl, by simp only [enc2, dat, PyData.eqv], by simp only [enc2, dat, PyData.eqv]⟩
theorem nn_3 {α β γ : Type} {f : α → Val} {g : β → Val} {h : γ → Val} : Nn (enc3 f g h) := fun a => ⟨rfl, by simp only [enc3, dat, PyData.eqv], by simp only [enc3, dat, PyData.eqv]⟩
theorem lw_O {α : Type} [DecidableEq α] {f : α → Val} {n : Nat} (h : Lw f n) (nn : Nn f) : Lw (encO f) n := ⟨fun a b => by
    cases a with
    | none =>
      cases b with
      | none => simp only [veq, encO, dat, PyData.eqv]; rfl
      | some b => simp only [veq, encO, dat]; rw [(nn b).2.2]; rfl
    | some a =>
      cases b with
      | none => simp only [veq, encO, dat]; rw [(nn a).2.1]; rfl
      | some b =>
        have e : veq (f a) (f b) = decide (a = b) := h.eq a b
        show veq (f a) (f b) = _
        rw [e]; simp only [Option.some.injEq], fun a => by
    cases a with
    | none => simp only [encO, VL.pl]
    | some a => exact h.pl a, fun a => by
    cases a with
    | none => simp only [encO, dat, PyData.canLay0]
    | some a => exact h.lay a, fun a => by
    cases a with
    | none => simp only [encO, dat, PyData.depth]; exact Nat.zero_le _
    | some a => exact h.dep a⟩
theorem isNon_O {α : Type} {f : α → Val} (nn : Nn f) (a : Option α) : isNon (encO f a) = a.isNone := by
  cases a with
  | none => rfl
  | some a => exact (nn a).1

/-! ### typed operations -/
/-- xs[i], d where there is none -/
def ix {α : Type} (xs : List α) (i : Int) (d : α) : α := (atI xs i).getD d
def IxOk {α : Type} (xs : List α) (i : Int) : Prop := -(xs.length : Int) ≤ i ∧ i < xs.length
theorem atI_map {α β : Type} (f : α → β) (xs : List α) (i : Int) : atI (xs.map f) i = (atI xs i).map f := by
  unfold atI
  rw [List.length_map]
  cases ixN xs.length i with
  | none => rfl
  | some j => simp
theorem ixN_of {n : Nat} {i : Int} (h : -(n : Int) ≤ i ∧ i < n) : ∃ j, ixN n i = some j ∧ j < n := by
  unfold ixN
  by_cases h0 : 0 ≤ i
  · rw [if_pos h0, if_pos h.2]; exact ⟨_, rfl, by omega⟩
  · rw [if_neg h0, if_pos h.1]; exact ⟨_, rfl, by omega⟩
theorem atI_ix {α : Type} {xs : List α} {i : Int} (h : IxOk xs i) (d : α) : atI xs i = some (ix xs i d) := by
  obtain ⟨j, e, hj⟩ := ixN_of h
  unfold ix atI
  rw [e]
  show xs[j]? = some ((xs[j]?).getD d)
  rw [List.getElem?_eq_getElem hj]; rfl
theorem ix_nat {α : Type} (xs : List α) (i : Int) (d : α) (h : 0 ≤ i) : ix xs i d = xs.getD i.toNat d := by
  unfold ix atI ixN
  rw [if_pos h]
  by_cases h1 : i < xs.length
  · rw [if_pos h1, List.getD_eq_getElem?_getD]; rfl
  · rw [if_neg h1, List.getD_eq_getElem?_getD, List.getElem?_eq_none (by omega)]; rfl
theorem ix_neg {α : Type} (xs : List α) (i : Int) (d : α) (h : i < 0) (h2 : -(xs.length : Int) ≤ i) : ix xs i d = xs.getD (i + xs.length).toNat d := by
  unfold ix atI ixN
  rw [if_neg (by omega), if_pos h2, List.getD_eq_getElem?_getD]; rfl
theorem ixOk_map {α β : Type} {f : α → β} {xs : List α} {i : Int} (h : IxOk xs i) : IxOk (xs.map f) i := by
  unfold IxOk at h ⊢; rw [List.length_map]; exact h
/-- xs[i] = v -/
def setI {α : Type} (xs : List α) (i : Int) (v : α) : List α := match ixN xs.length i with | some j => xs.set j v | none => xs
/-- xs.pop(): the last, the others -/
def popL {α : Type} (xs : List α) (d : α) : α × List α := (xs.getLastD d, xs.dropLast)
def popAt {α : Type} (xs : List α) (i : Int) (d : α) : α × List α := match ixN xs.length i with | some j => (xs.getD j d, xs.eraseIdx j) | none => (d, xs)

/-! ### rules over types -/
section
variable {X : Cx} {M : List Nat} {a b c e : Expr} {es : List Expr} {env env1 env2 env3 : En} {oa ob o : Opd} {pos pos' : Pos} {α β γ : Type} {i : Int}
/-- a value told otherwise -/
theorem Ev.as {v u : Val} (h : Ev X e env (.val v) env1) (q : v = u) : Ev X e env (.val u) env1 := q ▸ h
theorem EvN.as {v u : Val} (h : EvN X e env v env1) (q : v = u) : EvN X e env u env1 := q ▸ h
theorem EvT.as {p q : Bool} (h : EvT X e env p env1) (hq : p = q) : EvT X e env q env1 := hq ▸ h
theorem ev_ixT {f : α → Val} {xs : List α} {va : Val} (d : α) (h : IxOk xs i) (ha : Ev X a env oa env1) (hb : Ev X b env1 (.val (.int i)) env2) (hc : Cont env2 oa va) (hs : SeqV va (xs.map f)) (hpl : PlainIx b := by exact fun _ _ => rfl) : Ev X (.Subscript a b pos) env (.val (f (ix xs i d))) env2 :=
  ev_ix (by rw [atI_map, atI_ix h d]; rfl) ha hb hc hs hpl
/-- a slot with what may be None, read where it is not -/
theorem ev_vO {f : α → Val} {t : Option α} {x : Str} (i : Nat) (d : α) (hs : t.isSome = true) (h : Ev X (.Name x pos) env (.val (encO f t)) env) : Ev X (.Name x pos) env (.val (f (t.getD d))) env :=
  h.as (by
    cases t with
    | none => cases hs
    | some y => rfl)
theorem Ev.unO {f : α → Val} {t : Option α} (d : α) (hs : t.isSome = true) (h : Ev X e env (.val (encO f t)) env1) : Ev X e env (.val (f (t.getD d))) env1 :=
  h.as (by
    cases t with
    | none => cases hs
    | some y => rfl)
section
variable [DecidableEq α] {f : α → Val} {n : Nat} {x y : α} {xs : List α}
theorem ev_eqT (L : Lw f n) (hn : n ≤ 64) (hu : X.A.units + 64 < cLine) (ha : Ev X a env oa env1) (hb : Ev X b env1 ob env2) (ca : Cont env2 oa (f x)) (cb : Cont env2 ob (f y)) : Ev X (.Compare a [.Eq] [b] pos) env (.val (.bl (decide (x = y)))) env2 := (ev_eq hu (L.good hn x) (L.good hn y) ha hb ca cb).as (by rw [L.eq])
theorem ev_neT (L : Lw f n) (hn : n ≤ 64) (hu : X.A.units + 64 < cLine) (ha : Ev X a env oa env1) (hb : Ev X b env1 ob env2) (ca : Cont env2 oa (f x)) (cb : Cont env2 ob (f y)) : Ev X (.Compare a [.NotEq] [b] pos) env (.val (.bl (!decide (x = y)))) env2 := (ev_ne hu (L.good hn x) (L.good hn y) ha hb ca cb).as (by rw [L.eq])
theorem et_eqT (L : Lw f n) (hn : n ≤ 64) (hu : X.A.units + 64 < cLine) (ha : Ev X a env oa env1) (hb : Ev X b env1 ob env2) (ca : Cont env2 oa (f x)) (cb : Cont env2 ob (f y)) : EvT X (.Compare a [.Eq] [b] pos) env (decide (x = y)) env2 := (et_eq hu (L.good hn x) (L.good hn y) ha hb ca cb).as (by rw [L.eq])
theorem et_neT (L : Lw f n) (hn : n ≤ 64) (hu : X.A.units + 64 < cLine) (ha : Ev X a env oa env1) (hb : Ev X b env1 ob env2) (ca : Cont env2 oa (f x)) (cb : Cont env2 ob (f y)) : EvT X (.Compare a [.NotEq] [b] pos) env (!decide (x = y)) env2 := (et_ne hu (L.good hn x) (L.good hn y) ha hb ca cb).as (by rw [L.eq])
theorem any_in (L : Lw f n) : ∀ xs : List α, ((xs.map f).any fun z => veq z (f x)) = decide (x ∈ xs)
  | [] => by simp
  | z :: zs => by
    rw [List.map_cons, List.any_cons, any_in L zs, L.eq]
    by_cases h : z = x
    · simp [h]
    · have h' : ¬ x = z := fun q => h q.symm
      simp [h, h']
theorem ev_inT {vb : Val} (L : Lw f n) (hn : n ≤ 62) (hu : X.A.units + 65 < cLine) (ha : Ev X a env oa env1) (hb : Ev X b env1 ob env2) (ca : Cont env2 oa (f x)) (cb : Cont env2 ob vb) (hs : SeqV vb (xs.map f)) (hm : behindInMarks .In b = false := by with_unfolding_all rfl) :
    Ev X (.Compare a [.In] [b] pos) env (.val (.bl (decide (x ∈ xs)))) env2 := (ev_in hu (L.good (by omega) x) ((lw_L L).good (by omega) xs) ha hb ca cb hs hm).as (by rw [any_in L])
theorem ev_niT {vb : Val} (L : Lw f n) (hn : n ≤ 62) (hu : X.A.units + 65 < cLine) (ha : Ev X a env oa env1) (hb : Ev X b env1 ob env2) (ca : Cont env2 oa (f x)) (cb : Cont env2 ob vb) (hs : SeqV vb (xs.map f)) (hm : behindInMarks .NotIn b = false := by with_unfolding_all rfl) :
    Ev X (.Compare a [.NotIn] [b] pos) env (.val (.bl (!decide (x ∈ xs)))) env2 := (ev_ni hu (L.good (by omega) x) ((lw_L L).good (by omega) xs) ha hb ca cb hs hm).as (by rw [any_in L])
theorem et_inT {vb : Val} (L : Lw f n) (hn : n ≤ 62) (hu : X.A.units + 65 < cLine) (ha : Ev X a env oa env1) (hb : Ev X b env1 ob env2) (ca : Cont env2 oa (f x)) (cb : Cont env2 ob vb) (hs : SeqV vb (xs.map f)) (hm : behindInMarks .In b = false := by with_unfolding_all rfl) :
    EvT X (.Compare a [.In] [b] pos) env (decide (x ∈ xs)) env2 := (et_in hu (L.good (by omega) x) ((lw_L L).good (by omega) xs) ha hb ca cb hs hm).as (by rw [any_in L])
theorem et_niT {vb : Val} (L : Lw f n) (hn : n ≤ 62) (hu : X.A.units + 65 < cLine) (ha : Ev X a env oa env1) (hb : Ev X b env1 ob env2) (ca : Cont env2 oa (f x)) (cb : Cont env2 ob vb) (hs : SeqV vb (xs.map f)) (hm : behindInMarks .NotIn b = false := by with_unfolding_all rfl) :
    EvT X (.Compare a [.NotIn] [b] pos) env (!decide (x ∈ xs)) env2 := (et_ni hu (L.good (by omega) x) ((lw_L L).good (by omega) xs) ha hb ca cb hs hm).as (by rw [any_in L])
end
theorem ev_isNT {f : α → Val} {t : Option α} {k : Nat} (nn : Nn f) (ha : Ev X a env (.val (encO f t)) env1) : Ev X (.Compare a [.Is] [.Constant .none k pos'] pos) env (.val (.bl t.isNone)) env1 := (ev_isN ha).as (by rw [isNon_O nn])
theorem ev_notNT {f : α → Val} {t : Option α} {k : Nat} (nn : Nn f) (ha : Ev X a env (.val (encO f t)) env1) : Ev X (.Compare a [.IsNot] [.Constant .none k pos'] pos) env (.val (.bl t.isSome)) env1 := (ev_notN ha).as (by rw [isNon_O nn]; cases t <;> rfl)
theorem et_isNT {f : α → Val} {t : Option α} {k : Nat} (nn : Nn f) (ha : Ev X a env (.val (encO f t)) env1) : EvT X (.Compare a [.Is] [.Constant .none k pos'] pos) env t.isNone env1 := (et_isN ha).as (isNon_O nn t)
theorem et_notNT {f : α → Val} {t : Option α} {k : Nat} (nn : Nn f) (ha : Ev X a env (.val (encO f t)) env1) : EvT X (.Compare a [.IsNot] [.Constant .none k pos'] pos) env t.isSome env1 := (et_notN ha).as (by rw [isNon_O nn]; cases t <;> rfl)
/-- a if c else b -/
theorem ev_ifT {f : α → Val} {x y : α} {p : Bool} (hc : EvT X c env p env1) (h1 : p = true → Ev X a env1 (.val (f x)) env2) (h0 : p = false → Ev X b env1 (.val (f y)) env2) : Ev X (.IfExp c a b pos) env (.val (f (if p = true then x else y))) env2 :=
  ev_ifG hc (fun h => by rw [if_pos h]; exact h1 h) fun h => by rw [if_neg (by rw [h]; decide)]; exact h0 h
/-- a block whose end is told by a value; an if in it -/
theorem ess_ifV {ts fs rest : List Stmt} {p : Bool} (outF : β → Out) {t1 t0 : β} (hc : EvT X c env p env1) (h1 : p = true → ∃ o, EvSs X M ts env1 o ∧ Then X M o rest (outF t1)) (h0 : p = false → ∃ o, EvSs X M fs env1 o ∧ Then X M o rest (outF t0)) :
    EvSs X M (.If c ts fs pos :: rest) env (outF (if p = true then t1 else t0)) :=
  ess_if hc (fun h => by rw [if_pos h]; exact h1 h) fun h => by rw [if_neg (by rw [h]; decide)]; exact h0 h
/-- an if both of whose ways go on: the slots behind it told by the answer -/
theorem es_ifJ {ts fs : List Stmt} {p : Bool} (envF : β → En) {t1 t0 : β} (hc : EvT X c env p env1) (h1 : p = true → EvSs X M ts env1 (.nx (envF t1))) (h0 : p = false → EvSs X M fs env1 (.nx (envF t0))) : EvS X M (.If c ts fs pos) env (.nx (envF (if p = true then t1 else t0))) :=
  es_if hc (fun h => by rw [if_pos h]; exact h1 h) fun h => by rw [if_neg (by rw [h]; decide)]; exact h0 h
/-- loops whose turns end by a value -/
def outLO {S R : Type} (envS : S → En) (outR : R → Out) : LO S R → Out
  | .nx s => .nx (envS s)
  | .bk s => .bk (envS s)
  | .rt r => outR r
def IsRt (o : Out) : Prop := ∃ r e, o = .rt r e
theorem lo_of {S R : Type} {envS : S → En} {outR : R → Out} (h : ∀ r, IsRt (outR r)) (l : LO S R) : Lo envS outR (outLO envS outR l) l := by
  cases l with
  | nx s => exact .nx s
  | bk s => exact .bk s
  | rt r =>
    obtain ⟨x, e, q⟩ := h r
    exact .rt r (by rw [q]; rfl) (fun e' z => by rw [q] at z; cases z) fun e' z => by rw [q] at z; cases z
/-- what follows a loop that may have returned -/
def afterL {S R B : Type} (t : S ⊕ R) (k : S → B) (r : R → B) : B := match t with | .inl s => k s | .inr x => r x
theorem then_loop {S R B : Type} {rest : List Stmt} {envS : S → En} {outR : R → Out} (outF : B → Out) {t : S ⊕ R} {k : S → B} {r : R → B} (h : ∀ s, t = .inl s → EvSs X M rest (envS s) (outF (k s))) (hr : ∀ x, t = .inr x → outR x = outF (r x) ∧ IsRt (outR x)) : Then X M (outL envS outR t) rest (outF (afterL t k r)) := by
  cases t with
  | inl s => exact h s rfl
  | inr x =>
    obtain ⟨e, y, z, q⟩ := hr x rfl
    show Then X M (outR x) rest (outF (r x))
    rw [← e, q]; rfl
end

/-! ### defs by name -/
structure DefAt (K : PySem.W.Frag) (mg : Str → Option Value) (x : Str) (st : Stmt) (ps : List Str) : Prop where
  ex : ∃ f fd, Fun K x x st f fd ∧ mg x = some (.ref f) ∧ Binds K fd ps []
structure CalOk (P : Program) (w : World) (K : PySem.W.Frag) (mg : Str → Option Value) (base : Heap) (x : Str) (ps : List Str) (k : Nat) (R : Rel) : Prop where
  ex : ∃ f fd, FnOk P w K mg base CX0 k f fd ps (SpOf K R) ∧ mg x = some (.ref f) ∧ PySem.W.keepIn K (.ref f) = true ∧ Binds K fd ps []
section
variable {P : Program} {w : World} {K : PySem.W.Frag} {mg : Str → Option Value} {base : Heap}
theorem DefAt.ok {x : Str} {st : Stmt} {N ps : List Str} {k : Nat} {R : Rel} (D : DefAt K mg x st ps) (S : FnScope N ps (defScope st)) (hps : ps.length ≤ N.length) (hlen : ∀ args r outs, R args r outs → args.length = ps.length ∧ outs.length = args.length ∧ SameMu args outs ∧ SameMu outs args)
    (hb : ∀ (f : Addr) (cdv : Value) (A : Around) (outer : List Env) (s : Shared) (H : Hp) (E : XK), Room k (A.deeper (envOfC x (defScope st) s.heap.objs.size f cdv)) → ∀ args r outs, R args r outs →
      ∃ out, EvSs (cxOf CX0 P w K mg base N x (defScope st) f cdv A outer s H E).nox (muI args) (defBody st) (env0 N.length args) out ∧ OutOk args r outs out) : CalOk P w K mg base x ps (k + 1) R := by
  obtain ⟨f, fd, F, m, b⟩ := D.ex
  exact ⟨f, fd, def_ok F S hps hlen fun cdv A outer s H E hr => hb f cdv A outer s H E hr, m, F.kp, b⟩
theorem CalOk.pe {X : Cx} {x : Str} {ps : List Str} {k j : Nat} {R : Rel} {e : Expr} {es : List Expr} {p pos : Pos} (C : CalOk X.prog X.w X.K X.mg X.base x ps k R) (hr : Room j X.A) (hj : k ≤ j) (hg : Gl X x)
    (hdb : (x == ("__debug__" : Str)) = false := by decide) (he : starEach (e :: es) X.env = (false, eval e X.env) :: starEach es X.env := by rfl) (hpl : (backTo pos (starEach es X.env)).any (·.1) = false := by rfl) :
    PE X (.Call (.Name x p) (e :: es) [] pos) (tCall (SpOf X.K R) [] E0 (wpA X (e :: es))) := by
  obtain ⟨f, fd, F, m, kp, b⟩ := C.ex
  exact pe_call F (hr.mono hj) hg m kp b .nil pass0 (pa_wp _) hdb he hpl
theorem CalOk.imp {x : Str} {ps : List Str} {k : Nat} {R R' : Rel} (C : CalOk P w K mg base x ps k R) (h : ∀ args r outs, R' args r outs → R args r outs) : CalOk P w K mg base x ps k R' := by
  obtain ⟨f, fd, F, r⟩ := C.ex
  exact ⟨f, fd, F.imp fun vs H Q E ⟨Z, args, r, outs, hR, q⟩ => ⟨Z, args, r, outs, h _ _ _ hR, q⟩, r⟩
end
end VL

/-! VL11: typed rules of containers, loops, comprehensions. -/
namespace VL
open PySem PySem.Spec PyProof.Rows L2

theorem map_eraseIdx {α β : Type} (f : α → β) : ∀ (l : List α) (j : Nat), (l.eraseIdx j).map f = (l.map f).eraseIdx j
  | [], j => by simp
  | x :: xs, 0 => rfl
  | x :: xs, j + 1 => by
    show f x :: (xs.eraseIdx j).map f = f x :: (xs.map f).eraseIdx j
    rw [map_eraseIdx f xs j]
theorem hu64 {k : Nat} {A : Around} (hr : Room k A) : A.units + 64 < cLine := by have := hr.un; omega
theorem hu65 {k : Nat} {A : Around} (hr : Room k A) : A.units + 65 < cLine := by have := hr.un; omega
section
variable {X : Cx} {M : List Nat} {st : Stmt} {a b c e : Expr} {es : List Expr} {env env1 env2 env3 : En} {oa ob oc o : Opd} {pos p1 p2 p3 : Pos} {α β : Type} {f : α → Val} {t u : List α} {d y : α} {k : Int}
/-- xs.append(e) -/
theorem ev_appendT (i : Nat) {x : Str} (ho : Ev X (.Name x p1) env (.slot i) env) (ha : Ev X a env (.val (f y)) env1) (h0 : env[i]? = some (Sl.ow (encL f u))) (h1 : env1[i]? = some (Sl.ow (encL f t))) (hz : t.length < sizeLine)
    (p : PE X (.Call (.Attribute (.Name x p1) "append" p2) [a] [] pos) (tBM X.K "list" rAppend (wpE X (.Name x p1)) (wpA X [a])) := by exact pe_bm PySem.F.plainAttrs_list PySem.F.slot_list_append PySem.F.type_list_append mt_append (pe_wp _) (pa_wp _)) (hst : starEach [a] X.env = [(false, eval a X.env)] := by rfl) :
    Ev X (.Call (.Attribute (.Name x p1) "append" p2) [a] [] pos) env (.val .non) (env1.set i (.ow (encL f (t ++ [y])))) := by
  have q := ev_append i ho h0 ha h1 (by rw [List.length_map]; exact hz) p hst
  have e : encL f (t ++ [y]) = .lst (t.map f ++ [f y]) := by unfold encL; rw [List.map_append]; rfl
  rw [e]
  exact q
/-- xs.pop() -/
theorem ev_popT (i : Nat) {x : Str} (d : α) (ho : Ev X (.Name x p1) env (.slot i) env) (h0 : env[i]? = some (Sl.ow (encL f t))) (hne : t ≠ [])
    (p : PE X (.Call (.Attribute (.Name x p1) "pop" p2) [] [] pos) (tBM0 X.K "list" rPop (wpE X (.Name x p1))) := by exact pe_bm0 PySem.F.plainAttrs_list PySem.F.slot_list_pop PySem.F.type_list_pop mt_pop (pe_wp _)) :
    Ev X (.Call (.Attribute (.Name x p1) "pop" p2) [] [] pos) env (.val (f (t.getLastD d))) (env.set i (.ow (encL f t.dropLast))) := by
  have e : t = t.dropLast ++ [t.getLastD d] := by
    rw [List.getLastD_eq_getLast?, List.getLast?_eq_getLast hne]
    exact (List.dropLast_concat_getLast hne).symm
  refine ev_pop i ho ?_ p
  rw [h0]
  have e2 : encL f t = .lst (t.dropLast.map f ++ [f (t.getLastD d)]) := by
    show Val.lst (t.map f) = _
    rw [← List.map_singleton, ← List.map_append, ← e]
  rw [e2]
/-- xs.pop(k) -/
theorem ev_popAtT (i : Nat) {x : Str} (d : α) (ho : Ev X (.Name x p1) env (.slot i) env) (ha : Ev X a env (.val (.int k)) env1) (h0 : env[i]? = some (Sl.ow (encL f u))) (h1 : env1[i]? = some (Sl.ow (encL f t))) (hk : IxOk t k) (hz : t.length < 2 ^ 63)
    (p : PE X (.Call (.Attribute (.Name x p1) "pop" p2) [a] [] pos) (tBM X.K "list" rPopAt (wpE X (.Name x p1)) (wpA X [a])) := by exact pe_bm PySem.F.plainAttrs_list PySem.F.slot_list_pop PySem.F.type_list_pop mt_popAt (pe_wp _) (pa_wp _)) (hst : starEach [a] X.env = [(false, eval a X.env)] := by rfl) :
    Ev X (.Call (.Attribute (.Name x p1) "pop" p2) [a] [] pos) env (.val (f (popAt t k d).1)) (env1.set i (.ow (encL f (popAt t k d).2))) := by
  obtain ⟨j, e, hj⟩ := ixN_of hk
  have e1 : popAt t k d = (t.getD j d, t.eraseIdx j) := by unfold popAt; rw [e]
  rw [e1]
  have e2 : encL f (t.eraseIdx j) = .lst ((t.map f).eraseIdx j) := by unfold encL; rw [map_eraseIdx]
  rw [e2]
  refine ev_popAt (k := k) (j := j) i ho h0 ha h1 (by rw [List.length_map]; exact e) ?_ (by rw [List.length_map]; exact hz) p hst
  rw [List.getElem?_map, List.getElem?_eq_getElem hj, List.getD_eq_getElem?_getD, List.getElem?_eq_getElem hj]; rfl
theorem ev_reverseT (i : Nat) {x : Str} (ho : Ev X (.Name x p1) env (.slot i) env) (h0 : env[i]? = some (Sl.ow (encL f t)))
    (p : PE X (.Call (.Attribute (.Name x p1) "reverse" p2) [] [] pos) (tBM0 X.K "list" rReverse (wpE X (.Name x p1))) := by exact pe_bm0 PySem.F.plainAttrs_list PySem.F.slot_list_reverse PySem.F.type_list_reverse mt_reverse (pe_wp _)) :
    Ev X (.Call (.Attribute (.Name x p1) "reverse" p2) [] [] pos) env (.val .non) (env.set i (.ow (encL f t.reverse))) := by
  have e : encL f t.reverse = .lst (t.map f).reverse := by unfold encL; rw [List.map_reverse]
  rw [e]
  exact ev_reverse i ho h0 p
/-- xs[k] = e -/
theorem es_setIxT (i : Nat) (pp : PS X st (tAsg (wpE X e) (gSub (wpE X a) (wpE X b) rSetL))) (he : Ev X e env (.val (f y)) env1) (ho : Ev X a env1 (.slot i) env1) (hb : Ev X b env1 (.val (.int k)) env2) (h1 : env2[i]? = some (Sl.ow (encL f t))) (hk : IxOk t k) :
    EvS X M st env (.nx (env2.set i (.ow (encL f (setI t k y))))) := by
  obtain ⟨j, e, hj⟩ := ixN_of hk
  have e1 : setI t k y = t.set j y := by unfold setI; rw [e]
  have e2 : encL f (setI t k y) = .lst ((t.map f).set j (f y)) := by rw [e1]; unfold encL; rw [List.map_set]
  rw [e2]
  exact es_setIx i pp he ho hb h1 (by rw [List.length_map]; exact e)
theorem ev_catTT (hz : t.length + u.length ≤ sizeLine) (ha : Ev X a env (.val (encT f t)) env1) (hb : Ev X b env1 (.val (encT f u)) env2) : Ev X (.BinOp a .Add b pos) env (.val (encT f (t ++ u))) env2 := by
  have e : encT f (t ++ u) = .tup (t.map f ++ u.map f) := by unfold encT; rw [List.map_append]
  rw [e]
  exact ev_catT (by rw [List.length_map, List.length_map]; exact hz) ha hb
variable {lo hi : Option Expr} {ol oh : Option Int}
theorem en_slLT (ha : Ev X a env oa env1) (hl : EvP X lo env1 ol env2) (hh : EvP X hi env2 oh env3) (hc : Cont env3 oa (encL f t)) : EvN X (.Subscript a (.Slice lo hi none p2) pos) env (encL f (cutL t ol oh)) env3 := by
  have e : encL f (cutL t ol oh) = .lst (cutL (t.map f) ol oh) := by unfold encL; rw [cutL_map]
  rw [e]
  exact en_slL ha hl hh hc
theorem ev_slTT (ha : Ev X a env (.val (encT f t)) env1) (hl : EvP X lo env1 ol env2) (hh : EvP X hi env2 oh env3) : Ev X (.Subscript a (.Slice lo hi none p2) pos) env (.val (encT f (cutL t ol oh))) env3 := by
  have e : encT f (cutL t ol oh) = .tup (cutL (t.map f) ol oh) := by unfold encT; rw [cutL_map]
  rw [e]
  exact ev_slT ha hl hh
theorem en_revLT {kk : Nat} (ha : Ev X a env oa env1) (hc : Cont env1 oa (encL f t)) : EvN X (.Subscript a (.Slice none none (some (.UnaryOp .USub (.Constant (.int 1) kk p1) p2)) p3) pos) env (encL f t.reverse) env1 := by
  have e : encL f t.reverse = .lst (t.map f).reverse := by unfold encL; rw [List.map_reverse]
  rw [e]
  exact en_revL ha hc
theorem ev_lenT {va : Val} {p' : Pos} (hm : X.mg "len" = none) (ha : Ev X a env oa env1) (hc : Cont env1 oa va) (hs : SeqV va (t.map f)) (hg : Gl X "len" := by rfl) (hst : starEach [a] X.env = [(false, eval a X.env)] := by rfl) :
    Ev X (.Call (.Name "len" p') [a] [] pos) env (.val (.int t.length)) env1 := (ev_len hm ha hc hs hg hst).as (by rw [List.length_map])
/-- name = e: the usual forms -/
theorem es_setV {i : Nat} {x : Str} {v : Val} (pp : PS X (.Assign [.Name x p1] e pos) (tAsg (wpE X e) (gName i))) (he : Ev X e env (.val v) env1) (hi : i < env1.length) (hM : i ∉ M) : EvS X M (.Assign [.Name x p1] e pos) env (.nx (env1.set i (.im v))) := es_set pp he.r hi hM
theorem es_setO {i : Nat} {x : Str} {v : Val} (pp : PS X (.Assign [.Name x p1] e pos) (tAsg (wpE X e) (gName i))) (he : EvN X e env v env1) (hi : i < env1.length) (hM : i ∉ M) : EvS X M (.Assign [.Name x p1] e pos) env (.nx (env1.set i (.ow v))) := es_setN pp he.r hi hM
theorem es_augI {i : Nat} {x : Str} {op : Operator} {g : Int → Int → Int} {m n : Int} (pp : PS X (.AugAssign (.Name x p1) op e pos) (tAug i (wpE X e) (ipI g))) (hx : env[i]? = some (Sl.im (.int m))) (hx1 : env1[i]? = some (Sl.im (.int m))) (he : Ev X e env (.val (.int n)) env1) (hM : i ∉ M) :
    EvS X M (.AugAssign (.Name x p1) op e pos) env (.nx (env1.set i (.im (.int (g m n))))) := es_aug pp hx hx1 he (fun Z H σ Q x y hH rx ry k => ⟨m, n, rep_int' (K := X.K) (Z := Z) (H := H) rx, rep_int' (K := X.K) (Z := Z) (H := H) ry, k Z H _ (Stp.refl ..) hH (rep_int (K := X.K) (Z := Z) (H := H) _)⟩) hM
end

/-! ### comprehensions -/
section
variable {X : Cx} {scope : Scope} {tg iter elt c : Expr} {wi : TI} {env env1 : En} {pos : Pos} {α β S : Type} {own : List (Str × Nat)} {v : Val}
theorem en_lc0 (hc : X.calm = true) (hN : X.N.Nodup) (hi : PI X tg iter wi) (ok : BlkOk X.N X.env.scope scope own) (h : EvNR X.K (tLc wi (gA X scope tg) (tA X scope []) (eA X scope elt) (own.map (·.2))) env v env1) (hs : ∀ x, foldedSetIterable iter X.env x = pure x := by intro _; rfl) :
    EvN X (.ListComp elt [⟨tg, iter, [], 0⟩] scope pos) env v env1 :=
  EvNR.ev (pe_lc hc hN hi ok (fun s H C cl fp => pg_A X scope tg s H C cl fp) (fun s H C cl fp => pts_A0 X scope s H C cl fp) (fun s H C cl fp => pe_A X scope elt s H C cl fp) hs) h
theorem en_lc1 (hc : X.calm = true) (hN : X.N.Nodup) (hi : PI X tg iter wi) (ok : BlkOk X.N X.env.scope scope own) (h : EvNR X.K (tLc wi (gA X scope tg) (tA X scope [c]) (eA X scope elt) (own.map (·.2))) env v env1) (hs : ∀ x, foldedSetIterable iter X.env x = pure x := by intro _; rfl) :
    EvN X (.ListComp elt [⟨tg, iter, [c], 0⟩] scope pos) env v env1 :=
  EvNR.ev (pe_lc hc hN hi ok (fun s H C cl fp => pg_A X scope tg s H C cl fp) (fun s H C cl fp => pts_A1 X scope c s H C cl fp) (fun s H C cl fp => pe_A X scope elt s H C cl fp) hs) h
/-- name = [..] on its line -/
theorem es_lc0 {M : List Nat} {i : Nat} {y : Str} {py spos : Pos} (hc : X.calm = true) (hN : X.N.Nodup) (hy : X.N[i]? = some y) (hyl : X.env.scope.names.lookup y = some .local)
    (hsw : swapsWith (.ListComp elt [⟨tg, iter, [], 0⟩] scope pos) (some (.Name y py)) spos.line X.env = pure true) (hi : PI X tg iter wi) (ok : BlkOk X.N X.env.scope scope own) (hs : ∀ x, foldedSetIterable iter X.env x = pure x := by intro _; rfl) :
    PS X (.Assign [.Name y py] (.ListComp elt [⟨tg, iter, [], 0⟩] scope pos) spos) (tAsg (tLc wi (gA X scope tg) (tA X scope []) (eA X scope elt) (own.map (·.2))) (gName i)) :=
  ps_setLc hc hN hy hyl hsw hi ok (fun s H C cl fp => pg_A X scope tg s H C cl fp) (fun s H C cl fp => pts_A0 X scope s H C cl fp) (fun s H C cl fp => pe_A X scope elt s H C cl fp) hs
theorem es_lc1 {M : List Nat} {i : Nat} {y : Str} {py spos : Pos} (hc : X.calm = true) (hN : X.N.Nodup) (hy : X.N[i]? = some y) (hyl : X.env.scope.names.lookup y = some .local)
    (hsw : swapsWith (.ListComp elt [⟨tg, iter, [c], 0⟩] scope pos) (some (.Name y py)) spos.line X.env = pure true) (hi : PI X tg iter wi) (ok : BlkOk X.N X.env.scope scope own) (hs : ∀ x, foldedSetIterable iter X.env x = pure x := by intro _; rfl) :
    PS X (.Assign [.Name y py] (.ListComp elt [⟨tg, iter, [c], 0⟩] scope pos) spos) (tAsg (tLc wi (gA X scope tg) (tA X scope [c]) (eA X scope elt) (own.map (·.2))) (gName i)) :=
  ps_setLc hc hN hy hyl hsw hi ok (fun s H C cl fp => pg_A X scope tg s H C cl fp) (fun s H C cl fp => pts_A1 X scope c s H C cl fp) (fun s H C cl fp => pe_A X scope elt s H C cl fp) hs
variable {vs : List Nat} {ifs : List Expr}
/-- a pure comprehension without a test -/
theorem lcM (encA : α → Val) (encB : β → Val) (l : List α) (g : α → β) (ok : α → Prop) (hsrc : SrcR X.K wi env (l.map encA) env1) (hok : ∀ x ∈ l, ok x)
    (ht : ∀ x, x ∈ l → ok x → ∃ envx, (∀ s' H0 C cl fp, EvG (Bk X scope s' H0 C cl fp) (oth env1.length vs) tg (encA x) (wipeE env1 vs) envx) ∧ wipeE envx vs = wipeE env1 vs ∧ (∀ s' H0 C cl fp, Ev (Bk X scope s' H0 C cl fp) elt envx (.val (encB (g x))) envx)) :
    EvNR X.K (tLc wi (gA X scope tg) (tA X scope []) (eA X scope elt) vs) env (encL encB (l.map g)) env1 := by
  have q := lcN (X := X) (scope := scope) (tg := tg) (elt := elt) (ifs := []) (wi := wi) (env := env) (vs := vs) (fun _ : Unit => env1) () encA encB l (fun _ _ => true) (fun _ x => (g x, ())) (fun _ x => ok x) (fun _ _ => True) env1.length hsrc
    (lcOk_pure (p := fun _ => true) (g := g) fun x hx => ⟨hok x hx, fun _ => trivial⟩) (fun _ => rfl) (fun _ x hx hx' => by
      obtain ⟨envx, h1, h2, h3⟩ := ht x hx hx'
      exact ⟨envx, h1, h2, eta_nil, fun _ _ => ⟨envx, h3, h2, fun _ _ => rfl⟩⟩)
  rw [lcL_pure] at q
  have e : l.filter (fun _ => true) = l := List.filter_eq_self.mpr fun _ _ => rfl
  rw [e] at q
  exact q
/-- .. with a test -/
theorem lcF (encA : α → Val) (encB : β → Val) (l : List α) (p : α → Bool) (g : α → β) (okp okg : α → Prop) (hsrc : SrcR X.K wi env (l.map encA) env1) (hok : ∀ x ∈ l, okp x ∧ (p x = true → okg x))
    (ht : ∀ x, x ∈ l → okp x → ∃ envx, (∀ s' H0 C cl fp, EvG (Bk X scope s' H0 C cl fp) (oth env1.length vs) tg (encA x) (wipeE env1 vs) envx) ∧ wipeE envx vs = wipeE env1 vs ∧ (∀ s' H0 C cl fp, EvT (Bk X scope s' H0 C cl fp) c envx (p x) envx) ∧
      (p x = true → okg x → ∀ s' H0 C cl fp, Ev (Bk X scope s' H0 C cl fp) elt envx (.val (encB (g x))) envx)) :
    EvNR X.K (tLc wi (gA X scope tg) (tA X scope [c]) (eA X scope elt) vs) env (encL encB ((l.filter p).map g)) env1 := by
  have q := lcN (X := X) (scope := scope) (tg := tg) (elt := elt) (ifs := [c]) (wi := wi) (env := env) (vs := vs) (fun _ : Unit => env1) () encA encB l (fun _ x => p x) (fun _ x => (g x, ())) (fun _ x => okp x) (fun _ x => okg x) env1.length hsrc
    (lcOk_pure (p := p) (g := g) hok) (fun _ => rfl) (fun _ x hx hx' => by
      obtain ⟨envx, h1, h2, h3, h4⟩ := ht x hx hx'
      exact ⟨envx, h1, h2, eta_one h3, fun hp hg => ⟨envx, h4 hp hg, h2, fun _ _ => rfl⟩⟩)
  rw [lcL_pure] at q
  exact q
end

/-! ### loops without a return -/
section
variable {X : Cx} {M : List Nat} {body : List Stmt} {tg iter c : Expr} {env env1 : En} {va : Val} {pos : Pos} {α S : Type}
/-- for, every turn of which goes on -/
theorem es_forF (envS : S → En) (f : S → α → S) (ok : S → α → Prop) (enc : α → Val) (l : List α) (s0 : S) (hcalm : X.calm = true) (hp : PassesOwn (model X.prog X.w) X.A X.env X.xe)
    (hi : Ev X iter env (.val va) (envS s0)) (hs : SeqV va (l.map enc)) (hok : foldOk f ok s0 l)
    (hb : ∀ s x, x ∈ l → ok s x → ∃ envt, EvG X M tg (enc x) (envS s) envt ∧ EvSs X M body envt (.nx (envS (f s x))))
    (hf : ∀ x, foldedSetIterable iter X.env x = pure x := by intro _; rfl) : EvS X M (.For tg iter body [] pos) env (.nx (envS (l.foldl f s0))) := by
  have q := es_for (R := Empty) (X := X) (M := M) (envS := envS) (outR := fun x => nomatch x) (fun s x => .nx (f s x)) ok enc l s0 (tg := tg) (body := body) (pos := pos) hcalm hp hi hs (loopOk_nx hok) (fun s x hx hx' => by
    obtain ⟨envt, h1, h2⟩ := hb s x hx hx'
    exact ⟨envt, _, h1, h2, .nx _⟩) hf
  rw [loopL_nx] at q
  exact q
theorem es_forF1 {a : Expr} {p p' : Pos} (envS : S → En) (f : S → Int → S) (ok : S → Int → Prop) (n : Int) (s0 : S) (hcalm : X.calm = true) (hp : PassesOwn (model X.prog X.w) X.A X.env X.xe) (hm : X.mg "range" = none)
    (ha : Ev X a env (.val (.int n)) (envS s0)) (hn : -(2 ^ 62) ≤ n ∧ n < 2 ^ 62) (hok : foldOk f ok s0 (irange 0 n))
    (hb : ∀ s x, x ∈ irange 0 n → ok s x → ∃ envt, EvG X M tg (.int x) (envS s) envt ∧ EvSs X M body envt (.nx (envS (f s x)))) (hg : Gl X "range" := by rfl) (hst : starEach [a] X.env = [(false, eval a X.env)] := by rfl)
    (hf : ∀ x, foldedSetIterable (.Call (.Name "range" p) [a] [] p') X.env x = pure x := by intro _; rfl) : EvS X M (.For tg (.Call (.Name "range" p) [a] [] p') body [] pos) env (.nx (envS ((irange 0 n).foldl f s0))) := by
  have q := es_forR1 (R := Empty) (X := X) (M := M) (envS := envS) (outR := fun x => nomatch x) (tg := tg) (body := body) (pos := pos) (p := p) (p' := p') (fun s x => .nx (f s x)) ok n s0 hcalm hp hm ha hn (loopOk_nx hok) (fun s x hx hx' => by
    obtain ⟨envt, h1, h2⟩ := hb s x hx hx'
    exact ⟨envt, _, h1, h2, .nx _⟩) hg hst hf
  rw [loopL_nx] at q
  exact q
theorem es_forF2 {a b : Expr} {p p' : Pos} (envS : S → En) (f : S → Int → S) (ok : S → Int → Prop) (m n : Int) (s0 : S) (hcalm : X.calm = true) (hp : PassesOwn (model X.prog X.w) X.A X.env X.xe) (hm : X.mg "range" = none)
    (ha : Ev X a env (.val (.int m)) env1) (hb' : Ev X b env1 (.val (.int n)) (envS s0)) (hn : (-(2 ^ 62) ≤ m ∧ m < 2 ^ 62) ∧ -(2 ^ 62) ≤ n ∧ n < 2 ^ 62) (hok : foldOk f ok s0 (irange m n))
    (hb : ∀ s x, x ∈ irange m n → ok s x → ∃ envt, EvG X M tg (.int x) (envS s) envt ∧ EvSs X M body envt (.nx (envS (f s x)))) (hg : Gl X "range" := by rfl) (hst : starEach [a, b] X.env = [(false, eval a X.env), (false, eval b X.env)] := by rfl) (hst2 : starEach [b] X.env = [(false, eval b X.env)] := by rfl)
    (hf : ∀ x, foldedSetIterable (.Call (.Name "range" p) [a, b] [] p') X.env x = pure x := by intro _; rfl) : EvS X M (.For tg (.Call (.Name "range" p) [a, b] [] p') body [] pos) env (.nx (envS ((irange m n).foldl f s0))) := by
  have q := es_forR2 (R := Empty) (X := X) (M := M) (envS := envS) (outR := fun x => nomatch x) (tg := tg) (body := body) (pos := pos) (p := p) (p' := p') (fun s x => .nx (f s x)) ok m n s0 hcalm hp hm ha hb' hn (loopOk_nx hok) (fun s x hx hx' => by
    obtain ⟨envt, h1, h2⟩ := hb s x hx hx'
    exact ⟨envt, _, h1, h2, .nx _⟩) hg hst hst2 hf
  rw [loopL_nx] at q
  exact q
/-- while, every turn of which goes on -/
def whileS {S : Type} (c : S → Bool) (f : S → S) : Nat → S → S
  | 0, s => s
  | n + 1, s => if c s = true then whileS c f n (f s) else s
def whileSOk {S : Type} (c : S → Bool) (f : S → S) (okc ok : S → Prop) : Nat → S → Prop
  | 0, s => okc s ∧ c s = false
  | n + 1, s => okc s ∧ (c s = true → ok s ∧ whileSOk c f okc ok n (f s))
theorem whileL_nx {S R : Type} (c : S → Bool) (f : S → S) : ∀ (n : Nat) (s : S), whileL (R := R) c (fun s => .nx (f s)) n s = .inl (whileS c f n s)
  | 0, s => rfl
  | n + 1, s => by
    unfold whileL whileS
    by_cases h : c s = true
    · rw [if_pos h, if_pos h]; exact whileL_nx c f n (f s)
    · rw [if_neg h, if_neg h]
theorem whileOk_nx {S R : Type} {c : S → Bool} {f : S → S} {okc ok : S → Prop} : ∀ {n : Nat} {s : S}, whileSOk c f okc ok n s → whileOk (R := R) c (fun s => .nx (f s)) okc ok n s
  | 0, s, h => h
  | n + 1, s, h => ⟨h.1, fun q => ⟨(h.2 q).1, whileOk_nx (h.2 q).2⟩⟩
theorem es_whileS (envS : S → En) (cs : S → Bool) (f : S → S) (okc ok : S → Prop) (n : Nat) (s0 : S) (hp : PassesOwn (model X.prog X.w) X.A X.env X.xe) (hok : whileSOk cs f okc ok n s0)
    (hc : ∀ s, okc s → EvT X c (envS s) (cs s) (envS s)) (hb : ∀ s, ok s → cs s = true → EvSs X M body (envS s) (.nx (envS (f s)))) : EvS X M (.While c body [] pos) (envS s0) (.nx (envS (whileS cs f n s0))) := by
  have q := es_while (R := Empty) (X := X) (M := M) (envS := envS) (outR := fun x => nomatch x) (body := body) (pos := pos) cs (fun s => .nx (f s)) okc ok n s0 hp (whileOk_nx hok) hc fun s h1 h2 => ⟨_, hb s h1 h2, .nx _⟩
  rw [whileL_nx] at q
  exact q
/-- a bound on a while: what falls at each turn -/
theorem whileSOk_by {S : Type} {c : S → Bool} {f : S → S} {okc ok : S → Prop} (I : S → Prop) (m : S → Nat) (h : ∀ s, I s → okc s ∧ (c s = true → ok s ∧ I (f s) ∧ m (f s) < m s)) : ∀ (n : Nat) (s : S), I s → m s < n → whileSOk c f okc ok n s
  | 0, s, _, hn => absurd hn (Nat.not_lt_zero _)
  | n + 1, s, hi, hn => ⟨(h s hi).1, fun q => ⟨((h s hi).2 q).1, whileSOk_by I m h n (f s) ((h s hi).2 q).2.1 (by have := ((h s hi).2 q).2.2; omega)⟩⟩
theorem whileS_by {S : Type} {c : S → Bool} {f : S → S} (I : S → Prop) (m : S → Nat) (h : ∀ s, I s → c s = true → I (f s) ∧ m (f s) < m s) : ∀ (n : Nat) (s : S), I s → m s < n → I (whileS c f n s) ∧ c (whileS c f n s) = false
  | 0, s, _, hn => absurd hn (Nat.not_lt_zero _)
  | n + 1, s, hi, hn => by
    unfold whileS
    by_cases q : c s = true
    · rw [if_pos q]
      exact whileS_by I m h n (f s) (h s hi q).1 (by have := (h s hi q).2; omega)
    · rw [if_neg q]
      exact ⟨hi, by simpa using q⟩
end
end VL

/-! VL12: blocks with what follows them. -/
namespace VL
open PySem PySem.Spec PyProof.Rows L2

def wpC (X : Cx) : List (List Stmt) → TS
  | [] => fun D => D.nx
  | k :: ks => fun D => wpSs X k { D with nx := wpC X ks D }
/-- blocks, one behind the other -/
def EvC (X : Cx) (M : List Nat) (ks : List (List Stmt)) (env : En) (out : Out) : Prop := ∀ (Z : ZS) (H : Hp) (σ : Stt) (D : Ends), Hld X.K Z H σ env → Post X M Z H (Own env σ) σ D out → wpC X ks D σ H
section
variable {X : Cx} {M : List Nat} {st : Stmt} {sts ts fs : List Stmt} {ks : List (List Stmt)} {c : Expr} {env env1 env2 : En} {out : Out} {v : Val} {pos : Pos} {p : Bool} {β S R : Type}
theorem EvC.ss (h : EvC X M [sts] env out) : EvSs X M sts env out := h
theorem ec_end : EvC X M [] env (.nx env) := fun Z H σ D hH P => P Z H σ (Stp.refl ..) hH (Fix.refl σ)
theorem ec_nil (h : EvC X M ks env out) : EvC X M ([] :: ks) env out := fun Z H σ D hH P => wp_pss pss_nil (h Z H σ D hH P)
theorem ec_cons (h1 : EvS X M st env (.nx env1)) (h2 : EvC X M (sts :: ks) env1 out) : EvC X M ((st :: sts) :: ks) env out := fun Z H σ D hH P => by
  refine wp_pss (pss_cons (ps_wp st) (pss_wp sts)) ?_
  exact h1 Z H σ _ hH fun Z1 H1 σ1 s hh f => h2 Z1 H1 σ1 D hh (P.mono s f)
theorem ec_last (h1 : EvS X M st env out) (hl : out.leaves = true) : EvC X M ((st :: sts) :: ks) env out := fun Z H σ D hH P => by
  refine wp_pss (pss_cons (ps_wp st) (pss_wp sts)) ?_
  exact h1 Z H σ _ hH ((P.ends hl).ends hl)
theorem ec_if (hc : EvT X c env p env1) (h1 : p = true → EvC X M (ts :: sts :: ks) env1 out) (h0 : p = false → EvC X M (fs :: sts :: ks) env1 out) : EvC X M ((.If c ts fs pos :: sts) :: ks) env out := fun Z H σ D hH P => by
  refine wp_pss (pss_cons (ps_if (pt_wp c) (pss_wp ts) (pss_wp fs)) (pss_wp sts)) ?_
  refine hc Z H σ _ hH fun Z1 H1 s hh => ?_
  have P1 := P.mono s (Fix.refl σ)
  cases p with
  | true => exact h1 rfl Z1 H1 σ D hh P1
  | false => exact h0 rfl Z1 H1 σ D hh P1
theorem ec_ifV (outF : β → Out) {t1 t0 : β} (hc : EvT X c env p env1) (h1 : p = true → EvC X M (ts :: sts :: ks) env1 (outF t1)) (h0 : p = false → EvC X M (fs :: sts :: ks) env1 (outF t0)) (ho : out = outF (if p = true then t1 else t0) := by rfl) : EvC X M ((.If c ts fs pos :: sts) :: ks) env out :=
  ho ▸ ec_if hc (fun h => by rw [if_pos h]; exact h1 h) fun h => by rw [if_neg (by rw [h]; decide)]; exact h0 h
theorem ec_loop {envS : S → En} {outR : R → Out} {t : S ⊕ R} (outF : β → Out) {k : S → β} {r : R → β} (h1 : EvS X M st env (outL envS outR t)) (h : ∀ s, t = .inl s → EvC X M (sts :: ks) (envS s) (outF (k s))) (hr : ∀ x, outR x = outF (r x) ∧ IsRt (outR x)) (ho : out = outF (afterL t k r) := by rfl) :
    EvC X M ((st :: sts) :: ks) env out := by
  subst ho
  cases t with
  | inl s => exact ec_cons h1 (h s rfl)
  | inr x =>
    obtain ⟨e, y, z, q⟩ := hr x
    have h1' : EvS X M st env (outR x) := h1
    show EvC X M ((st :: sts) :: ks) env (outF (r x))
    rw [← e]
    exact ec_last h1' (by rw [q]; rfl)
theorem EvC.wk (h : EvC X M ks env1 out) (k : Wk env env1) : EvC X M ks env out := fun Z H σ D hH P =>
  h Z H σ D (hH.wk k) (P.mono ((Stp.refl Z H (Own env σ)).sub fun a o => k.own a o) (Fix.refl σ))
theorem EvC.frz (i : Nat) (e : env[i]? = some (Sl.ow v)) (h : EvC X M ks (env.set i (.im v)) out) : EvC X M ks env out := fun Z H σ D hH P => by
  obtain ⟨Z', h', s⟩ := hH.fr e
  exact h Z' H σ D h' (P.mono s (Fix.refl σ))
theorem EvC.wkN (h : EvC X M ks env (.nx env1)) (k : Wk env1 env2) : EvC X M ks env (.nx env2) := fun Z H σ D hH P =>
  h Z H σ D hH fun Z' H' σ' s h' f => P Z' H' σ' (s.sub fun a o => k.own a o) (h'.wk k) f
theorem EvC.wkB (h : EvC X M ks env (.bk env1)) (k : Wk env1 env2) : EvC X M ks env (.bk env2) := fun Z H σ D hH P =>
  h Z H σ D hH fun Z' H' σ' s h' f => P Z' H' σ' (s.sub fun a o => k.own a o) (h'.wk k) f
theorem EvC.wkR {r : Rt} (h : EvC X M ks env (.rt r env1)) (k : Wk env1 env2) : EvC X M ks env (.rt r env2) := fun Z H σ D hH P =>
  h Z H σ D hH fun Z' H' σ' w s h' f rr => P Z' H' σ' w (s.sub fun a o => o.elim (fun o => .inl (k.own a o)) .inr) (h'.wk k) f (by
    cases r with
    | im v => exact rr
    | ow v => obtain ⟨a, e, t, nz, no⟩ := rr; exact ⟨a, e, t, nz, fun o => no (k.own a o)⟩)
/-- a block's end told as the same end -/
theorem EvC.as {out' : Out} (h : EvC X M ks env out) (e : out = out') : EvC X M ks env out' := e ▸ h
theorem EvC.ren (h : EvC X M ks env1 out) (e : env = env1) : EvC X M ks env out := e ▸ h
end
end VL

/-! VL13: what printed proofs use. -/
namespace VL
open PySem PySem.Spec PyProof.Rows L2

theorem foldOk_true {α S : Type} {f : S → α → S} {ok : S → α → Prop} (h : ∀ s x, ok s x) : ∀ (s : S) (l : List α), foldOk f ok s l
  | _, [] => trivial
  | s, x :: xs => ⟨h s x, foldOk_true h (f s x) xs⟩
theorem loopOk_true {α S R : Type} {f : S → α → LO S R} {ok : S → α → Prop} (h : ∀ s x, ok s x) : ∀ (s : S) (l : List α), loopOk f ok s l
  | _, [] => trivial
  | s, x :: xs => by
    refine ⟨h s x, ?_⟩
    cases f s x with
    | nx s' => exact loopOk_true h s' xs
    | bk s' => trivial
    | rt r => trivial
/-- the lent places of arguments and of what is behind a call -/
def sameMuB : List Arg → List Arg → Bool
  | .im _ :: a, .im _ :: b => sameMuB a b
  | .mu _ :: a, .mu _ :: b => sameMuB a b
  | [], [] => true
  | _, _ => false
theorem sameMu_of : ∀ {a b : List Arg}, sameMuB a b = true → a.length = b.length ∧ SameMu a b ∧ SameMu b a
  | [], [], _ => ⟨rfl, fun i v e => by simp at e, fun i v e => by simp at e⟩
  | .im x :: a, .im y :: b, h => by
    obtain ⟨l, s1, s2⟩ := sameMu_of (a := a) (b := b) h
    refine ⟨by simp [l], fun i v e => ?_, fun i v e => ?_⟩
    · cases i with
      | zero => cases e
      | succ i => exact s1 i v e
    · cases i with
      | zero => cases e
      | succ i => exact s2 i v e
  | .mu x :: a, .mu y :: b, h => by
    obtain ⟨l, s1, s2⟩ := sameMu_of (a := a) (b := b) h
    refine ⟨by simp [l], fun i v e => ?_, fun i v e => ?_⟩
    · cases i with
      | zero => exact ⟨y, rfl⟩
      | succ i => exact s1 i v e
    · cases i with
      | zero => exact ⟨x, rfl⟩
      | succ i => exact s2 i v e
  | [], .im _ :: _, h => nomatch h
  | [], .mu _ :: _, h => nomatch h
  | .im _ :: _, [], h => nomatch h
  | .mu _ :: _, [], h => nomatch h
  | .im _ :: _, .mu _ :: _, h => nomatch h
  | .mu _ :: _, .im _ :: _, h => nomatch h
theorem len_of {args outs : List Arg} {ps : List Str} (h : args.length = ps.length) (q : sameMuB args outs = true) : args.length = ps.length ∧ outs.length = args.length ∧ SameMu args outs ∧ SameMu outs args := ⟨h, (sameMu_of q).1.symm, (sameMu_of q).2⟩
theorem nm {i : Nat} {M : List Nat} (h : M.contains i = false) : i ∉ M := fun z => by rw [List.contains_iff_mem.mpr z] at h; cases h
inductive OE : List Arg → En → Prop
  | nil {e : En} : OE [] e
  | mu {v : Val} {a : List Arg} {e : En} (h : OE a e) : OE (.mu v :: a) (.ow v :: e)
  | im {v : Val} {s : Sl} {a : List Arg} {e : En} (h : OE a e) : OE (.im v :: a) (s :: e)
theorem OE.ok {a : List Arg} {e : En} (h : OE a e) : ∀ (i : Nat) (v : Val), a[i]? = some (Arg.mu v) → e[i]? = some (Sl.ow v) := by
  induction h with
  | nil => intro i v q; simp at q
  | mu h ih =>
    intro i v q
    cases i with
    | zero => cases q; rfl
    | succ i => exact ih i v q
  | im h ih =>
    intro i v q
    cases i with
    | zero => cases q
    | succ i => exact ih i v q
theorem isRt {r : Rt} {e : En} : IsRt (.rt r e) := ⟨r, e, rfl⟩
def inlOf {S : Type} : S ⊕ Empty → S | .inl s => s | .inr r => nomatch r
def noR (r : Empty) : Out := nomatch r
/-- a loop with break, without return: the state behind it -/
def loopB {α S : Type} (f : S → α → LO S Empty) (s : S) (l : List α) : S := inlOf (loopL f s l)
def whileB {S : Type} (c : S → Bool) (f : S → LO S Empty) (n : Nat) (s : S) : S := inlOf (whileL c f n s)
theorem outL_B {S : Type} {envS : S → En} (t : S ⊕ Empty) : outL envS noR t = .nx (envS (inlOf t)) := by
  cases t with
  | inl s => rfl
  | inr r => exact nomatch r
section
variable {X : Cx} {M : List Nat} {st : Stmt} {sts body : List Stmt} {tg iter c : Expr} {env env1 env2 : En} {out : Out} {va : Val} {pos : Pos} {α S R : Type}
theorem EvS.wk0 (k : Wk env env1) (h : EvS X M st env1 out) : EvS X M st env out := fun Z H σ D hH P =>
  h Z H σ D (hH.wk k) (P.mono ((Stp.refl Z H (Own env σ)).sub fun a o => k.own a o) (Fix.refl σ))
theorem EvC.frz0 {v : Val} {ks : List (List Stmt)} (i : Nat) (e : env[i]? = some (Sl.ow v)) (h : EvC X M ks (env.set i (.im v)) out) : EvC X M ks env out := EvC.frz i e h
/-- for with returns -/
theorem es_forL {envS : S → En} {outR : R → Out} (hr : ∀ r, IsRt (outR r)) (f : S → α → LO S R) (ok : S → α → Prop) (enc : α → Val) (l : List α) (s0 : S) (hcalm : X.calm = true) (hp : PassesOwn (model X.prog X.w) X.A X.env X.xe)
    (hi : Ev X iter env (.val va) (envS s0)) (hs : SeqV va (l.map enc)) (hok : loopOk f ok s0 l)
    (hb : ∀ s x, x ∈ l → ok s x → ∃ envt, EvG X M tg (enc x) (envS s) envt ∧ EvSs X M body envt (outLO envS outR (f s x)))
    (hf : ∀ x, foldedSetIterable iter X.env x = pure x := by intro _; rfl) : EvS X M (.For tg iter body [] pos) env (outL envS outR (loopL f s0 l)) :=
  es_for f ok enc l s0 hcalm hp hi hs hok (fun s x hx hx' => by
    obtain ⟨envt, h1, h2⟩ := hb s x hx hx'
    exact ⟨envt, _, h1, h2, lo_of hr _⟩) hf
theorem es_forL1 {envS : S → En} {outR : R → Out} {a : Expr} {p p' : Pos} (hr : ∀ r, IsRt (outR r)) (f : S → Int → LO S R) (ok : S → Int → Prop) (n : Int) (s0 : S) (hcalm : X.calm = true) (hp : PassesOwn (model X.prog X.w) X.A X.env X.xe) (hm : X.mg "range" = none)
    (ha : Ev X a env (.val (.int n)) (envS s0)) (hn : -(2 ^ 62) ≤ n ∧ n < 2 ^ 62) (hok : loopOk f ok s0 (irange 0 n))
    (hb : ∀ s x, x ∈ irange 0 n → ok s x → ∃ envt, EvG X M tg (.int x) (envS s) envt ∧ EvSs X M body envt (outLO envS outR (f s x))) (hg : Gl X "range" := by rfl) (hst : starEach [a] X.env = [(false, eval a X.env)] := by rfl)
    (hf : ∀ x, foldedSetIterable (.Call (.Name "range" p) [a] [] p') X.env x = pure x := by intro _; rfl) : EvS X M (.For tg (.Call (.Name "range" p) [a] [] p') body [] pos) env (outL envS outR (loopL f s0 (irange 0 n))) :=
  es_forR1 f ok n s0 hcalm hp hm ha hn hok (fun s x hx hx' => by
    obtain ⟨envt, h1, h2⟩ := hb s x hx hx'
    exact ⟨envt, _, h1, h2, lo_of hr _⟩) hg hst hf
theorem es_forL2 {envS : S → En} {outR : R → Out} {a b : Expr} {p p' : Pos} (hr : ∀ r, IsRt (outR r)) (f : S → Int → LO S R) (ok : S → Int → Prop) (m n : Int) (s0 : S) (hcalm : X.calm = true) (hp : PassesOwn (model X.prog X.w) X.A X.env X.xe) (hm : X.mg "range" = none)
    (ha : Ev X a env (.val (.int m)) env1) (hb' : Ev X b env1 (.val (.int n)) (envS s0)) (hn : (-(2 ^ 62) ≤ m ∧ m < 2 ^ 62) ∧ -(2 ^ 62) ≤ n ∧ n < 2 ^ 62) (hok : loopOk f ok s0 (irange m n))
    (hb : ∀ s x, x ∈ irange m n → ok s x → ∃ envt, EvG X M tg (.int x) (envS s) envt ∧ EvSs X M body envt (outLO envS outR (f s x))) (hg : Gl X "range" := by rfl) (hst : starEach [a, b] X.env = [(false, eval a X.env), (false, eval b X.env)] := by rfl) (hst2 : starEach [b] X.env = [(false, eval b X.env)] := by rfl)
    (hf : ∀ x, foldedSetIterable (.Call (.Name "range" p) [a, b] [] p') X.env x = pure x := by intro _; rfl) : EvS X M (.For tg (.Call (.Name "range" p) [a, b] [] p') body [] pos) env (outL envS outR (loopL f s0 (irange m n))) :=
  es_forR2 f ok m n s0 hcalm hp hm ha hb' hn hok (fun s x hx hx' => by
    obtain ⟨envt, h1, h2⟩ := hb s x hx hx'
    exact ⟨envt, _, h1, h2, lo_of hr _⟩) hg hst hst2 hf
theorem es_whileL {envS : S → En} {outR : R → Out} (hr : ∀ r, IsRt (outR r)) (cs : S → Bool) (f : S → LO S R) (okc ok : S → Prop) (n : Nat) (s0 : S) (hp : PassesOwn (model X.prog X.w) X.A X.env X.xe) (hok : whileOk cs f okc ok n s0)
    (hc : ∀ s, okc s → EvT X c (envS s) (cs s) (envS s)) (hb : ∀ s, ok s → cs s = true → EvSs X M body (envS s) (outLO envS outR (f s))) : EvS X M (.While c body [] pos) (envS s0) (outL envS outR (whileL cs f n s0)) :=
  es_while cs f okc ok n s0 hp hok hc fun s h1 h2 => ⟨_, hb s h1 h2, lo_of hr _⟩
/-- .. with break alone -/
theorem EvS.noR {envS : S → En} {t : S ⊕ Empty} (h : EvS X M st env (outL envS VL.noR t)) : EvS X M st env (.nx (envS (inlOf t))) := outL_B t ▸ h
theorem rtNone (r : Empty) : IsRt (VL.noR r) := nomatch r
end
section
variable {S R : Type}
/-- a bound on a while with returns: what falls at each turn -/
theorem whileOk_by {c : S → Bool} {f : S → LO S R} {okc ok : S → Prop} (I : S → Prop) (m : S → Nat) (h : ∀ s, I s → okc s ∧ (c s = true → ok s ∧ ∀ s', f s = .nx s' → I s' ∧ m s' < m s)) : ∀ (n : Nat) (s : S), I s → m s < n → whileOk c f okc ok n s
  | 0, s, _, hn => absurd hn (Nat.not_lt_zero _)
  | n + 1, s, hi, hn => ⟨(h s hi).1, fun q => ⟨((h s hi).2 q).1, by
      have k := ((h s hi).2 q).2
      cases e : f s with
      | nx s' =>
        have k' := k s' e
        exact whileOk_by I m h n s' k'.1 (by have := k'.2; omega)
      | bk s' => trivial
      | rt r => trivial⟩⟩
end

/-! ### _law_same -/
/-- what _law_same answers of two values -/
inductive Sm : Nat → Val → Val → Bool → Prop
  | int (d : Nat) (m n : Int) : Sm d (.int m) (.int n) (decide (m = n))
  | bl (d : Nat) (m n : Bool) : Sm d (.bl m) (.bl n) (decide (m = n))
  | non (d : Nat) : Sm d .non .non true
  | inon (d : Nat) (m : Int) : Sm d (.int m) .non false
  | bnon (d : Nat) (m : Bool) : Sm d (.bl m) .non false
  | tnon (d : Nat) (xs : List Val) : Sm d (.tup xs) .non false
  | noni (d : Nat) (m : Int) : Sm d .non (.int m) false
  | nonb (d : Nat) (m : Bool) : Sm d .non (.bl m) false
  | nont (d : Nat) (xs : List Val) : Sm d .non (.tup xs) false
  | tupN (d : Nat) (xs ys : List Val) (h : xs.length ≠ ys.length) : Sm d (.tup xs) (.tup ys) false
  | tup (d : Nat) (xs ys : List Val) (ps : List Bool) (h : xs.length = ys.length) (hp : ps.length = ys.length) (hs : ∀ (i : Nat) (x y : Val) (p : Bool), xs[i]? = some x → ys[i]? = some y → ps[i]? = some p → Sm d x y p) : Sm (d + 1) (.tup xs) (.tup ys) (ps.all id)
/-- an encoding of which _law_same tells the sameness -/
def Ls {α : Type} [DecidableEq α] (f : α → Val) (d : Nat) : Prop := ∀ x y, Sm d (f x) (f y) (decide (x = y))
theorem Sm.up {d : Nat} {a b : Val} {p : Bool} (h : Sm d a b p) : ∀ {e : Nat}, d ≤ e → Sm e a b p := by
  induction h with
  | int d m n => exact fun _ => .int _ m n
  | bl d m n => exact fun _ => .bl _ m n
  | non d => exact fun _ => .non _
  | inon d m => exact fun _ => .inon _ m
  | bnon d m => exact fun _ => .bnon _ m
  | tnon d xs => exact fun _ => .tnon _ xs
  | noni d m => exact fun _ => .noni _ m
  | nonb d m => exact fun _ => .nonb _ m
  | nont d xs => exact fun _ => .nont _ xs
  | tupN d xs ys h => exact fun _ => .tupN _ xs ys h
  | tup d xs ys ps h hp hs ih =>
    intro e he
    cases e with
    | zero => omega
    | succ e => exact .tup e xs ys ps h hp (fun i x y p a b c => ih i x y p a b c (by omega))
theorem ls_int : Ls Val.int 0 := fun x y => .int 0 x y
theorem ls_bl : Ls Val.bl 0 := fun x y => .bl 0 x y
/-- values that _law_same tells from None -/
def Sn {α : Type} (f : α → Val) : Prop := ∀ a d, Sm d (f a) .non false ∧ Sm d .non (f a) false
theorem sn_int : Sn Val.int := fun a d => ⟨.inon d a, .noni d a⟩
theorem sn_bl : Sn Val.bl := fun a d => ⟨.bnon d a, .nonb d a⟩
theorem sn_T {α : Type} {f : α → Val} : Sn (encT f) := fun a d => ⟨.tnon d _, .nont d _⟩
theorem sn_2 {α β : Type} {f : α → Val} {g : β → Val} : Sn (enc2 f g) := fun a d => ⟨.tnon d _, .nont d _⟩
theorem sn_3 {α β γ : Type} {f : α → Val} {g : β → Val} {h : γ → Val} : Sn (enc3 f g h) := fun a d => ⟨.tnon d _, .nont d _⟩
theorem ls_O {α : Type} [DecidableEq α] {f : α → Val} {d : Nat} (h : Ls f d) (n : Sn f) : Ls (encO f) d := fun x y => by
  cases x with
  | none =>
    cases y with
    | none => exact .non d
    | some y => exact (n y d).2
  | some x =>
    cases y with
    | none => exact (n x d).1
    | some y =>
      have e : decide (some x = some y) = decide (x = y) := by simp only [Option.some.injEq]
      rw [e]; exact h x y
theorem ls_all {α : Type} [DecidableEq α] : ∀ {xs ys : List α}, xs.length = ys.length → ((xs.zip ys).map fun q => decide (q.1 = q.2)).all id = decide (xs = ys)
  | [], [], _ => rfl
  | x :: xs, y :: ys, h => by
    have ih := ls_all (xs := xs) (ys := ys) (by simpa using h)
    show (decide (x = y) && ((xs.zip ys).map fun q => decide (q.1 = q.2)).all id) = _
    rw [ih, dec_and]
    simp only [List.cons.injEq]
  | [], _ :: _, h => by simp at h
  | _ :: _, [], h => by simp at h
theorem ls_T {α : Type} [DecidableEq α] {f : α → Val} {d : Nat} (h : Ls f d) : Ls (encT f) (d + 1) := fun x y => by
  by_cases e : x.length = y.length
  · rw [← ls_all e]
    refine .tup d _ _ _ (by simp [e]) (by simp [e]) fun i a b p q1 q2 q3 => ?_
    rw [List.getElem?_map] at q1 q2 q3
    obtain ⟨u, hu, rfl⟩ := Option.map_eq_some_iff.mp q1
    obtain ⟨v, hv, rfl⟩ := Option.map_eq_some_iff.mp q2
    obtain ⟨w, hw, rfl⟩ := Option.map_eq_some_iff.mp q3
    rw [List.getElem?_zip_eq_some] at hw
    have e1 : w.1 = u := Option.some.inj (hw.1.symm.trans hu)
    have e2 : w.2 = v := Option.some.inj (hw.2.symm.trans hv)
    rw [e1, e2]
    exact h u v
  · have e2 : decide (x = y) = false := decide_eq_false fun z => e (by rw [z])
    rw [e2]
    exact .tupN _ _ _ (by simpa using e)
theorem ls_2 {α β : Type} [DecidableEq α] [DecidableEq β] {f : α → Val} {g : β → Val} {d e : Nat} (h : Ls f d) (h' : Ls g e) : Ls (enc2 f g) (max d e + 1) := fun x y => by
  have q : decide (x = y) = [decide (x.1 = y.1), decide (x.2 = y.2)].all id := by
    obtain ⟨x1, x2⟩ := x
    obtain ⟨y1, y2⟩ := y
    show _ = (decide (x1 = y1) && (decide (x2 = y2) && true))
    rw [Bool.and_true, dec_and]
    simp only [Prod.mk.injEq]
  rw [q]
  refine .tup _ _ _ _ rfl rfl fun i a b p q1 q2 q3 => ?_
  match i with
  | 0 => cases q1; cases q2; cases q3; exact (h _ _).up (by omega)
  | 1 => cases q1; cases q2; cases q3; exact (h' _ _).up (by omega)
  | i + 2 => simp at q3
theorem ls_3 {α β γ : Type} [DecidableEq α] [DecidableEq β] [DecidableEq γ] {f : α → Val} {g : β → Val} {k : γ → Val} {d e l : Nat} (h : Ls f d) (h' : Ls g e) (h'' : Ls k l) : Ls (enc3 f g k) (max d (max e l) + 1) := fun x y => by
  have q : decide (x = y) = [decide (x.1 = y.1), decide (x.2.1 = y.2.1), decide (x.2.2 = y.2.2)].all id := by
    obtain ⟨x1, x2, x3⟩ := x
    obtain ⟨y1, y2, y3⟩ := y
    show _ = (decide (x1 = y1) && (decide (x2 = y2) && (decide (x3 = y3) && true)))
    rw [Bool.and_true, dec_and, dec_and]
    simp only [Prod.mk.injEq]
  rw [q]
  refine .tup _ _ _ _ rfl rfl fun i a b p q1 q2 q3 => ?_
  match i with
  | 0 => cases q1; cases q2; cases q3; exact (h _ _).up (by omega)
  | 1 => cases q1; cases q2; cases q3; exact (h' _ _).up (by omega)
  | 2 => cases q1; cases q2; cases q3; exact (h'' _ _).up (by omega)
  | i + 3 => simp at q3
def R_same (d : Nat) : Rel := fun args r outs => ∃ a b p, Sm d a b p ∧ args = [.im a, .im b] ∧ r = .im (.bl p) ∧ outs = [.im a, .im b]
section
variable {X : Cx} {M : List Nat} {ks : List (List Stmt)} {env : En} {out : Out} {xs : List Val}
theorem vals_len : ∀ {ws : List V} {us : List Value}, Vals ws us → ws.length = us.length
  | [], [], _ => rfl
  | _ :: _, _ :: _, .cons _ h => by simp [vals_len h]
/-- how long a tuple can be -/
theorem EvC.lenT (i : Nat) (e : env[i]? = some (Sl.im (.tup xs))) (h : xs.length ≤ sizeLine → EvC X M ks env out) : EvC X M ks env out := fun Z H σ D hH P => by
  obtain ⟨w, _, r⟩ := hH.imm e
  have r' : Rep X.K Z H (.tup xs) w := r
  simp only [Rep] at r'
  obtain ⟨a, ws, rfl, n, rr⟩ := r'
  have l := rr.length
  refine h ?_ Z H σ D hH P
  rw [l]
  rcases n with ⟨_, _, n⟩ | ⟨o, its, m, _, _, _, sz, vs⟩
  · exact n
  · have q : ws.length = its.toList.length := vals_len vs
    rw [Array.length_toList] at q
    exact Nat.le_trans (Nat.le_of_eq q) sz
theorem EvC.lenL (i : Nat) (e : env[i]? = some (Sl.im (.lst xs))) (h : xs.length ≤ sizeLine → EvC X M ks env out) : EvC X M ks env out := fun Z H σ D hH P => by
  obtain ⟨w, _, r⟩ := hH.imm e
  have r' : Rep X.K Z H (.lst xs) w := r
  simp only [Rep] at r'
  obtain ⟨a, ws, rfl, n, rr⟩ := r'
  have l := rr.length
  refine h ?_ Z H σ D hH P
  rw [l]
  rcases n with ⟨_, _, n⟩ | ⟨o, its, m, _, _, _, _, sz, vs⟩
  · exact n
  · have q : ws.length = its.toList.length := vals_len vs
    rw [Array.length_toList] at q
    exact Nat.le_trans (Nat.le_of_eq q) sz
end
end VL

/-! VL14: the loop of _law_same; paths into a text; what stands behind the top. -/
namespace VL
open PySem PySem.Spec PyProof.Rows L2

theorem mem_irange0 {n : Nat} {x : Int} (h : x ∈ irange 0 n) : ∃ i : Nat, i < n ∧ x = i := by
  unfold irange at h
  obtain ⟨i, hi, rfl⟩ := List.mem_map.mp h
  exact ⟨i, by have := List.mem_range.mp hi; omega, by omega⟩
def same_turn (ps : List Bool) (_ : Unit) (x : Int) : LO Unit Unit := if ps.getD x.toNat false = true then .nx () else .rt ()
theorem same_all (ps : List Bool) : ∀ l : List Int, afterL (loopL (same_turn ps) () l) (fun _ => true) (fun _ => false) = l.all fun x => ps.getD x.toNat false
  | [] => rfl
  | x :: xs => by
    have ih := same_all ps xs
    rw [List.all_cons]
    unfold loopL
    cases q : ps.getD x.toNat false with
    | true =>
      have e : same_turn ps () x = .nx () := by unfold same_turn; rw [q]; rfl
      rw [e, Bool.true_and]; exact ih
    | false =>
      have e : same_turn ps () x = .rt () := by unfold same_turn; rw [q]; rfl
      rw [e]; rfl
theorem same_loop (ps : List Bool) : afterL (loopL (same_turn ps) () (irange 0 ps.length)) (fun _ => true) (fun _ => false) = ps.all id := by
  rw [same_all]
  have e : (irange 0 ps.length).map (fun x => ps.getD x.toNat false) = ps := by
    unfold irange
    rw [List.map_map]
    apply List.ext_getElem
    · simp
    · intro i h1 h2
      simp
      rw [List.getElem?_eq_getElem h2]; rfl
  have e2 : ((irange 0 ps.length).all fun x => ps.getD x.toNat false) = ((irange 0 ps.length).map (fun x => ps.getD x.toNat false)).all id := by rw [List.all_map]; rfl
  rw [e2, e]

section
variable {X : Cx} {M : List Nat} {st : Stmt} {e : Expr} {env env1 env2 : En} {v : Val}
theorem Ev.wk (h : Ev X e env (.val v) env1) (k : Wk env1 env2) : Ev X e env (.val v) env2 := fun Z H σ Q hH q =>
  h Z H σ Q hH fun Z1 H1 w s h1 r => q Z1 H1 w (s.sub fun a o => k.own a o) (h1.wk k) r
theorem EvS.to (h : EvS X M st env (.nx env1)) (e : env1 = env2) : EvS X M st env (.nx env2) := e ▸ h
end

/-! ### paths into a text -/
def stAt (l : List Stmt) (i : Nat) : Stmt := l.getD i (.Pass ⟨0, 0, 0, 0⟩)
def loopBody : Stmt → List Stmt
  | .For _ _ b _ _ => b
  | .While _ b _ _ => b
  | _ => []
def forTg : Stmt → Expr
  | .For t _ _ _ _ => t
  | _ => .Constant .none 0 ⟨0, 0, 0, 0⟩
def whTest : Stmt → Expr
  | .While c _ _ _ => c
  | _ => .Constant .none 0 ⟨0, 0, 0, 0⟩
def ifThen : Stmt → List Stmt
  | .If _ b _ _ => b
  | _ => []
def ifElse : Stmt → List Stmt
  | .If _ _ b _ => b
  | _ => []
theorem defAt {K : PySem.W.Frag} {h : Heap} {mg : Str → Option Value} {x : Str} {st : Stmt} {ps : List Str} {f : Addr} {oc : Value} {od an : Option Addr} {osl : Array (Option Value)} {kV doc pm cdv ct : Value} (X : K.In h) (G : h.Ns mainGlobals mg)
    (a : PySem.W.nsIn K mainGlobals x = some (some (.ref f))) (l : K.lookup f = some ⟨oc, od, .func (PySem.W.fnOf x x (defArgs st) (defBody st) (defScope st) .none kV doc pm an cdv ct), osl⟩) (c : PySem.W.codeIn K cdv x = true) (k : PySem.W.keepIn K (.ref f) = true)
    (hb : ∀ (kV doc pm : Value) (an : Option Addr) (cdv ct : Value) (us : List Value), us.length = ps.length → bindArgs (PySem.W.fnOf x x (defArgs st) (defBody st) (defScope st) .none kV doc pm an cdv ct) ⟨us, []⟩ = pure (ps.zip us)) : DefAt K mg x st ps :=
  ⟨f, _, fun_mk l c k, PySem.W.mg_of X G a, (fun_mk (st := st) l c k).binds hb⟩
end VL

/-! VL15: sorted of data. -/
namespace VL
open PySem PySem.Spec PyProof.Rows L2

def rSortedD (K : PySem.W.Frag) : List V → Hp → VK → Prop := fun vs H Q => ∃ (a : Addr) (ws : List V) (ds : List PyData), vs = [V.ref a] ∧ SqL K H a ws ∧ DpAll K H ws ds ∧ PySem.W.AllAlike ds ∧ PySem.W.Sortable ds ∧ (∀ d ∈ ds, d.depth ≤ 60) ∧
  ∀ p, H p = none → Q (.ref p) (upd H p (.lst (((ds.zip ws).mergeSort (PySem.W.dataLe false Prod.fst)).map Prod.snd)))
theorem each_zipR : ∀ {its : List Value} {ws : List V} {ds : List PyData}, Vals ws its → ds.length = ws.length → PySem.W.EachIs (fun v (b : PyData × V) => RelV b.2 v) its (ds.zip ws)
  | _, _, [], .nil, _ => .nil
  | _, _, d :: ds, .cons r h, e => .cons r (each_zipR h (by simpa using e))
  | _, _, _ :: _, .nil, e => by simp at e
  | _, _, [], .cons _ _, e => by simp at e
theorem each_zipD {X : Cx} {pins : List (Addr × Obj)} {σ : L2.St} {H : Hp} {s : Shared} (I : L2.Inv X pins σ H s) : ∀ {its : List Value} {ws : List V} {ds : List PyData}, Vals ws its → DpAll X.K H ws ds → PySem.W.EachIs (fun v (b : PyData × V) => ∃ as, Reads s.heap v b.1 as) its (ds.zip ws)
  | _, _, _, .nil, .nil => .nil
  | _, _, _, .cons r h, .cons d ds => .cons (Dp.reads I _ _ _ d r) (each_zipD I h ds)
theorem dpAll_len {K : PySem.W.Frag} {H : Hp} : ∀ {ws : List V} {ds : List PyData}, DpAll K H ws ds → ds.length = ws.length
  | _, _, .nil => rfl
  | _, _, .cons _ h => by simp [dpAll_len h]
theorem each_vals : ∀ {out : List Value} {bs : List (PyData × V)}, PySem.W.EachIs (fun v (b : PyData × V) => RelV b.2 v) out bs → Vals (bs.map Prod.snd) out
  | _, _, .nil => .nil
  | _, _, .cons r h => .cons r (each_vals h)
theorem cr_sortedD {X : Cx} (hu : X.A.units + 64 < cLine) : CallR X (.builtin "sorted") (rSortedD X.K) := by
  intro pins s σ H vs us Q I r h
  obtain ⟨a, ws, ds, rfl, hs, hd, ha, hso, hdep, q⟩ := h
  obtain ⟨its, rv, hli, hz⟩ := I.list hs
  rw [Vals.ref1 r]
  have hl := dpAll_len hd
  have hm : (ds.zip ws).map Prod.fst = ds := List.map_fst_zip (by omega)
  have hzl : (ds.zip ws).length = ws.length := by rw [List.length_zip]; omega
  refine PySem.W.sorted_data hli.isList (each_zipR rv hl) (each_zipD I rv hd) (by rw [hm]; exact ha) (by rw [hm]; exact hso) (by rw [hzl]; exact hz) (fun b hb => ?_) fun out h1 h2 => ?_
  · have : b.1 ∈ ds := by rw [← hm]; exact List.mem_map.mpr ⟨b, hb, rfl⟩
    have := hdep _ this
    omega
  · obtain ⟨ep, he'⟩ := PyProof.Rows.sortedAll_at s.heap its out.toArray
    have hlen : ((((ds.zip ws).mergeSort (PySem.W.dataLe false Prod.fst)).map Prod.snd)).length ≤ sizeLine := by
      rw [List.length_map, List.length_mergeSort, hzl]; exact hz
    exact ⟨.ref _, upd H (s.heap.objs.size + 1) (.lst _), I.laid (t' := s.toks) (fun _ _ => PyProof.Rows.sortedAll_old) (Nat.le_succ _) ⟨hlen, out, ep, each_vals h2, he'⟩, rfl, q _ (I.hok.fresh (Nat.le_succ _))⟩

/-- an encoding with an order -/
structure Od {α : Type} (f : α → Val) (lt : α → α → Bool) (n : Nat) : Prop where
  al : ∀ a b, PySem.W.alike (dat (f a)) (dat (f b)) = true
  so : (∀ a, ∃ x r, dat (f a) = .tuple (x :: r)) ∨ (∀ a, dat (f a) ≠ .none ∧ ∀ xs, dat (f a) ≠ .tuple xs)
  lt : ∀ a b, PySem.W.dataLt (dat (f a)) (dat (f b)) = lt a b
  pl : ∀ a, VL.pl (f a) = true
  dep : ∀ a, (dat (f a)).depth ≤ n
def srt {α : Type} (lt : α → α → Bool) (xs : List α) : List α := xs.mergeSort fun a b => !lt b a
theorem RepL.pairs {K : PySem.W.Frag} {Z : ZS} {H : Hp} {α : Type} {f : α → Val} : ∀ (ps : List (α × V)), (∀ p ∈ ps, Rep K Z H (f p.1) p.2) → RepL K Z H ((ps.map Prod.fst).map f) (ps.map Prod.snd)
  | [], _ => RepL.nil
  | p :: ps, h => RepL.cons (h p List.mem_cons_self) (RepL.pairs ps fun q hq => h q (List.mem_cons_of_mem _ hq))
theorem RepL.zipped {K : PySem.W.Frag} {Z : ZS} {H : Hp} {α : Type} {f : α → Val} {xs : List α} {ws : List V} (r : RepL K Z H (xs.map f) ws) : ∀ p ∈ xs.zip ws, Rep K Z H (f p.1) p.2 := fun p hp => by
  obtain ⟨i, hi⟩ := List.mem_iff_getElem?.mp hp
  rw [List.getElem?_zip_eq_some] at hi
  obtain ⟨w, hw, rw'⟩ := r.get (i := i) (x := f p.1) (by rw [List.getElem?_map, hi.1]; rfl)
  rw [hi.2] at hw; cases hw
  exact rw'
theorem datL_eq (xs : List Val) : datL xs = xs.map dat := by
  induction xs with
  | nil => rfl
  | cons x xs ih => simp only [datL, ih, List.map_cons]
section
variable {X : Cx} {a : Expr} {env env1 : En} {oa : Opd} {p' pos : Pos} {α : Type} {f : α → Val} {lt : α → α → Bool} {n : Nat} {xs : List α}
theorem en_sortedT (hu : X.A.units + 64 < cLine) (hm : X.mg "sorted" = none) (O : Od f lt n) (hn : n ≤ 60) (ha : Ev X a env oa env1) (hC : Cont env1 oa (encL f xs)) (hg : Gl X "sorted" := by rfl) (hst : starEach [a] X.env = [(false, eval a X.env)] := by rfl) :
    EvN X (.Call (.Name "sorted" p') [a] [] pos) env (encL f (srt lt xs)) env1 :=
  en_cal (pe_callB (cr_sortedD hu) hg hm (by decide +kernel) (pa_wp _) (by decide) (by decide) (by rw [hst]; rfl) rfl) (ea_cons ha ea_nil (by rw [hst]; rfl)) fun Z H σ Q ws hH rs k => by
    obtain ⟨w, rfl, r⟩ := rep1 rs
    have hz := (hC.rep hH r).szL
    obtain ⟨q, us, rfl, nn, r⟩ := (hC.rep hH r).lst
    have hpl : plL (xs.map f) = true := plL_map O.pl xs
    have hd := RepL.dp (xs.map f) hpl r
    have ed : datL (xs.map f) = xs.map fun a => dat (f a) := by rw [datL_eq, List.map_map]; rfl
    rw [ed] at hd
    have hl : xs.length = us.length := by have := r.length; rw [List.length_map] at this; exact this
    refine ⟨q, us, _, rfl, nn, hd, ?_, ?_, ?_, fun l hl' => ?_⟩
    · exact PySem.W.AllAlike.of O.al
    · rcases O.so with h | h
      · exact PySem.W.Sortable.tuples h
      · exact PySem.W.Sortable.others h
    · intro d hd
      obtain ⟨b, _, rfl⟩ := List.mem_map.mp hd
      exact Nat.le_trans (O.dep b) hn
    · obtain ⟨h2, s2, nz, no⟩ := hH.newO (o := .lst ((((xs.map fun a => dat (f a)).zip us).mergeSort (PySem.W.dataLe false Prod.fst)).map Prod.snd)) hl'
      have e1 : ((xs.map fun a => dat (f a)).zip us) = (xs.zip us).map (Prod.map (fun a => dat (f a)) id) := by
        rw [List.zip_map_left]
      have e2 : ((xs.map fun a => dat (f a)).zip us).mergeSort (PySem.W.dataLe false Prod.fst) = ((xs.zip us).mergeSort (fun p q => !lt q.1 p.1)).map (Prod.map (fun a => dat (f a)) id) := by
        rw [e1, List.map_mergeSort]
        intro p _ q _
        show (!lt q.1 p.1) = (!PySem.W.dataLt (dat (f q.1)) (dat (f p.1)))
        rw [O.lt]
      have e3 : (((xs.map fun a => dat (f a)).zip us).mergeSort (PySem.W.dataLe false Prod.fst)).map Prod.snd = ((xs.zip us).mergeSort (fun p q => !lt q.1 p.1)).map Prod.snd := by
        rw [e2, List.map_map]; rfl
      have e4 : srt lt xs = ((xs.zip us).mergeSort (fun p q => !lt q.1 p.1)).map Prod.fst := by
        unfold srt
        rw [List.map_mergeSort (s := fun a b => !lt b a) (fun _ _ _ _ => rfl), List.map_fst_zip (by omega)]
      refine k _ _ _ s2 h2 ⟨_, ⟨upd_same, ?_⟩, ?_⟩ nz no hl'
      · rw [List.length_map, List.length_mergeSort, List.length_zip, List.length_map]
        rw [List.length_map] at hz
        omega
      · rw [e4]
        have key : ∀ (H2 : Hp) (ys : List V), (∀ p ∈ xs.zip us, Rep X.K Z H2 (f p.1) p.2) → ys = ((xs.zip us).mergeSort (fun p q => !lt q.1 p.1)).map Prod.snd → RepL X.K Z H2 ((((xs.zip us).mergeSort (fun p q => !lt q.1 p.1)).map Prod.fst).map f) ys := fun H2 ys hr e => by
          subst e
          exact RepL.pairs _ fun p hp => hr p ((List.mergeSort_perm _ _).mem_iff.mp hp)
        exact key _ _ (fun p hp => Rep.st s2.zm (hH.zk s2) _ (r.zipped p hp)) e3
end
/-! ### orders -/
theorem od_int : Od Val.int (fun a b => decide (a < b)) 0 := ⟨fun _ _ => by simp [dat, PySem.W.alike], .inr fun a => ⟨by simp [dat], fun xs => by simp [dat]⟩, fun a b => PySem.W.dataLt_int a b, fun _ => by simp only [VL.pl], fun _ => by simp only [dat, PyData.depth]; exact Nat.le_refl _⟩
def ltS (a b : Str) : Bool := decide (a.cps.toList < b.cps.toList)
theorem od_str : Od Val.str ltS 0 := ⟨fun _ _ => by simp [dat, PySem.W.alike], .inr fun a => ⟨by simp [dat], fun xs => by simp [dat]⟩, fun a b => PySem.W.dataLt_str a b, fun _ => by simp only [VL.pl], fun _ => by simp only [dat, PyData.depth]; exact Nat.le_refl _⟩
/-- pairs: by the first, then by the second -/
def lt2 {α β : Type} [DecidableEq α] (l : α → α → Bool) (m : β → β → Bool) (p q : α × β) : Bool := if p.1 = q.1 then m p.2 q.2 else l p.1 q.1
def lt3 {α β γ : Type} [DecidableEq α] [DecidableEq β] (l : α → α → Bool) (m : β → β → Bool) (k : γ → γ → Bool) (p q : α × β × γ) : Bool := if p.1 = q.1 then (if p.2.1 = q.2.1 then k p.2.2 q.2.2 else m p.2.1 q.2.1) else l p.1 q.1
theorem dataLt_row {x y : PyData} (h : PySem.W.alike x y = true) (xs ys : List PyData) : PySem.W.dataLt (.tuple (x :: xs)) (.tuple (y :: ys)) = if PyData.eqv x y = true then PySem.W.dataLt (.tuple xs) (.tuple ys) else PySem.W.dataLt x y := by
  rw [PySem.W.dataLt_tuple, PySem.W.dataLt_cons h, PySem.W.dataLt_tuple]
theorem dataLt_nil : PySem.W.dataLt (.tuple []) (.tuple []) = false := PySem.W.dataLt_self _
theorem od_2 {α β : Type} [DecidableEq α] [DecidableEq β] {f : α → Val} {g : β → Val} {l : α → α → Bool} {m : β → β → Bool} {n n' k k' : Nat} (L : Lw f k) (O : Od f l n) (L' : Lw g k') (O' : Od g m n') : Od (enc2 f g) (lt2 l m) (max n n' + 1) := ⟨fun a b => by
    simp only [enc2, dat, datL, PySem.W.alike, PySem.W.alikeAll, O.al, O'.al, Bool.and_self], .inl fun a => ⟨_, _, by simp only [enc2, dat, datL]; rfl⟩, fun a b => by
    have e1 : PyData.eqv (dat (f a.1)) (dat (f b.1)) = decide (a.1 = b.1) := L.eq _ _
    have e2 : PyData.eqv (dat (g a.2)) (dat (g b.2)) = decide (a.2 = b.2) := L'.eq _ _
    simp only [enc2, dat, datL]
    rw [dataLt_row (O.al _ _), dataLt_row (O'.al _ _), dataLt_nil, e1, e2, O.lt, O'.lt]
    unfold lt2
    by_cases h : a.1 = b.1
    · rw [if_pos h, if_pos (by simpa using h)]
      by_cases h' : a.2 = b.2
      · rw [if_pos (by simpa using h'), h', ← O'.lt, PySem.W.dataLt_self]
      · rw [if_neg (by simpa using h')]
    · rw [if_neg h, if_neg (by simpa using h)], fun a => by simp only [enc2, VL.pl, plL, O.pl, O'.pl, Bool.and_self], fun a => by
    have := O.dep a.1
    have := O'.dep a.2
    simp only [enc2, dat, datL, PyData.depth, PyData.depthAll]
    omega⟩
theorem od_3 {α β γ : Type} [DecidableEq α] [DecidableEq β] [DecidableEq γ] {f : α → Val} {g : β → Val} {h : γ → Val} {l : α → α → Bool} {m : β → β → Bool} {q : γ → γ → Bool} {n n' n'' k k' k'' : Nat} (L : Lw f k) (O : Od f l n) (L' : Lw g k') (O' : Od g m n') (L'' : Lw h k'') (O'' : Od h q n'') : Od (enc3 f g h) (lt3 l m q) (max n (max n' n'') + 1) := ⟨fun a b => by
    simp only [enc3, dat, datL, PySem.W.alike, PySem.W.alikeAll, O.al, O'.al, O''.al, Bool.and_self], .inl fun a => ⟨_, _, by simp only [enc3, dat, datL]; rfl⟩, fun a b => by
    have e1 : PyData.eqv (dat (f a.1)) (dat (f b.1)) = decide (a.1 = b.1) := L.eq _ _
    have e2 : PyData.eqv (dat (g a.2.1)) (dat (g b.2.1)) = decide (a.2.1 = b.2.1) := L'.eq _ _
    have e3 : PyData.eqv (dat (h a.2.2)) (dat (h b.2.2)) = decide (a.2.2 = b.2.2) := L''.eq _ _
    simp only [enc3, dat, datL]
    rw [dataLt_row (O.al _ _), dataLt_row (O'.al _ _), dataLt_row (O''.al _ _), dataLt_nil, e1, e2, e3, O.lt, O'.lt, O''.lt]
    unfold lt3
    by_cases h1 : a.1 = b.1
    · rw [if_pos h1, if_pos (by simpa using h1)]
      by_cases h2 : a.2.1 = b.2.1
      · rw [if_pos (by simpa using h2), if_pos h2]
        by_cases h3 : a.2.2 = b.2.2
        · rw [if_pos (by simpa using h3), h3, ← O''.lt, PySem.W.dataLt_self]
        · rw [if_neg (by simpa using h3)]
      · rw [if_neg (by simpa using h2), if_neg h2]
    · rw [if_neg h1, if_neg (by simpa using h1)], fun a => by simp only [enc3, VL.pl, plL, O.pl, O'.pl, O''.pl, Bool.and_self], fun a => by
    have := O.dep a.1
    have := O'.dep a.2.1
    have := O''.dep a.2.2
    simp only [enc3, dat, datL, PyData.depth, PyData.depthAll]
    omega⟩
end VL

/-! VL16: min, max of data. -/
namespace VL
open PySem PySem.Spec PyProof.Rows L2

def bestD (mx : Bool) (d : PyData) (ds : List PyData) : PyData := if mx then PySem.W.maxD d ds else PySem.W.minD d ds
def rBestD (K : PySem.W.Frag) (mx : Bool) : List V → Hp → VK → Prop := fun vs H Q => ∃ (a : Addr) (ws : List V) (d : PyData) (ds : List PyData), vs = [V.ref a] ∧ (SqL K H a ws ∨ SqT K H a ws) ∧ DpAll K H ws (d :: ds) ∧ PySem.W.AlikeAll (d :: ds) ∧ PyData.depthAll (d :: ds) ≤ 60 ∧
  ∀ (i : Nat) (w : V), ws[i]? = some w → (d :: ds)[i]? = some (bestD mx d ds) → Q w H
theorem vals_get' : ∀ {ws : List V} {us : List Value} {i : Nat} {v : Value}, Vals ws us → us[i]? = some v → ∃ w, ws[i]? = some w ∧ RelV w v
  | _, _, 0, _, .cons r _, e => by cases e; exact ⟨_, rfl, r⟩
  | _, _, i + 1, _, .cons _ h, e => by
    obtain ⟨w, a, b⟩ := vals_get' (i := i) h (by simpa using e)
    exact ⟨w, by simpa using a, b⟩
  | _, _, _, _, .nil, e => by simp at e
theorem dpAll_get {K : PySem.W.Frag} {H : Hp} : ∀ {ws : List V} {ds : List PyData} {i : Nat} {w : V}, DpAll K H ws ds → ws[i]? = some w → ∃ d, ds[i]? = some d ∧ Dp K H w d
  | _, _, 0, _, .cons r _, e => by cases e; exact ⟨_, rfl, r⟩
  | _, _, i + 1, _, .cons _ h, e => by
    obtain ⟨d, a, b⟩ := dpAll_get (i := i) h (by simpa using e)
    exact ⟨d, by simpa using a, b⟩
  | _, _, _, _, .nil, e => by simp at e
section
variable {X : Cx}
theorem best_end {pins : List (Addr × Obj)} {σ : L2.St} {H : Hp} {s : Shared} {ws : List V} {its : List Value} {d b : PyData} {ds : List PyData} {Q : VK} (I : L2.Inv X pins σ H s) (rv : Vals ws its) (hd : DpAll X.K H ws (d :: ds)) (q : ∀ (i : Nat) (w : V), ws[i]? = some w → (d :: ds)[i]? = some b → Q w H)
    (i : Nat) (v : Value) (h' : Heap) (tk : Nat) (bs : List Addr) (hv : its.toArray[i]? = some v) (rd : Reads h' v b bs) (hk : ∀ b o, s.heap.get? b = some o → h'.get? b = some o) : EP X pins σ Q v { s with heap := h', toks := tk } := by
  have hv' : its[i]? = some v := by simpa using hv
  obtain ⟨w, hw, r⟩ := vals_get' rv hv'
  obtain ⟨e, he, hD⟩ := dpAll_get hd hw
  obtain ⟨as, r1⟩ := Dp.reads I _ _ _ hD r
  have ee := (reads_det (fun b o z _ => hk b o z) r1 rd).1
  exact ⟨w, H, I.kept hk, r, q i w hw (by rw [he, ee])⟩
theorem cr_minD (hc : X.calm = true) (hu : X.A.units + 64 < cLine) : CallR X (.builtin "min") (rBestD X.K false) := by
  intro pins s σ H vs us Q I r h
  obtain ⟨a, ws, d, ds, rfl, hs, hd, ha, hdep, q⟩ := h
  rw [Vals.ref1 r]
  rcases hs with hs | hs
  · obtain ⟨its, rv, hl, _⟩ := I.list hs
    obtain ⟨as, hr⟩ := Dp.readsAll I _ _ _ hd rv
    exact PySem.W.min_list_data (I.ok.hd hc) hl.isList hr ha (by omega) (best_end I rv hd q)
  · obtain ⟨its, rv, hl, _⟩ := I.tuple hs
    obtain ⟨as, hr⟩ := Dp.readsAll I _ _ _ hd rv
    exact PySem.W.min_tuple_data (I.ok.hd hc) hl hr ha (by omega) (best_end I rv hd q)
theorem cr_maxD (hc : X.calm = true) (hu : X.A.units + 64 < cLine) : CallR X (.builtin "max") (rBestD X.K true) := by
  intro pins s σ H vs us Q I r h
  obtain ⟨a, ws, d, ds, rfl, hs, hd, ha, hdep, q⟩ := h
  rw [Vals.ref1 r]
  rcases hs with hs | hs
  · obtain ⟨its, rv, hl, _⟩ := I.list hs
    obtain ⟨as, hr⟩ := Dp.readsAll I _ _ _ hd rv
    exact PySem.W.max_list_data (I.ok.hd hc) hl.isList hr ha (by omega) (best_end I rv hd q)
  · obtain ⟨its, rv, hl, _⟩ := I.tuple hs
    obtain ⟨as, hr⟩ := Dp.readsAll I _ _ _ hd rv
    exact PySem.W.max_tuple_data (I.ok.hd hc) hl hr ha (by omega) (best_end I rv hd q)
end
/-- the first of the least -/
def minT {α : Type} (lt : α → α → Bool) (xs : List α) (d : α) : α := match xs with | [] => d | x :: r => r.foldl (fun a y => if lt y a = true then y else a) x
def maxT {α : Type} (lt : α → α → Bool) (xs : List α) (d : α) : α := match xs with | [] => d | x :: r => r.foldl (fun a y => if lt a y = true then y else a) x
theorem foldl_mem {α : Type} (g : α → α → α) (hg : ∀ a y, g a y = a ∨ g a y = y) : ∀ (r : List α) (x : α), r.foldl g x ∈ x :: r
  | [], x => by simp
  | y :: r, x => by
    rw [List.foldl_cons]
    rcases List.mem_cons.mp (foldl_mem g hg r (g x y)) with e | e
    · rw [e]
      rcases hg x y with h | h
      · rw [h]; simp
      · rw [h]; simp
    · exact List.mem_cons_of_mem _ (List.mem_cons_of_mem _ e)
theorem minT_mem {α : Type} (lt : α → α → Bool) (d : α) : ∀ xs : List α, xs ≠ [] → minT lt xs d ∈ xs
  | [], h => absurd rfl h
  | x :: r, _ => foldl_mem _ (fun a y => by by_cases h : lt y a = true <;> simp [h]) r x
theorem maxT_mem {α : Type} (lt : α → α → Bool) (d : α) : ∀ xs : List α, xs ≠ [] → maxT lt xs d ∈ xs
  | [], h => absurd rfl h
  | x :: r, _ => foldl_mem _ (fun a y => by by_cases h : lt a y = true <;> simp [h]) r x
section
variable {X : Cx} {a : Expr} {env env1 : En} {oa : Opd} {va : Val} {p' pos : Pos} {α : Type} [DecidableEq α] {f : α → Val} {lt : α → α → Bool} {n k : Nat} {xs : List α}
theorem lw_inj {f : α → Val} (L : Lw f k) {x y : α} (h : dat (f x) = dat (f y)) : x = y := by
  have e1 := L.eq x x
  have e2 := L.eq x y
  unfold veq at e1 e2
  rw [← h, e1] at e2
  simpa using e2
theorem minD_map (O : Od f lt n) (x : α) : ∀ r : List α, PySem.W.minD (dat (f x)) (r.map fun a => dat (f a)) = dat (f (r.foldl (fun a y => if lt y a = true then y else a) x)) := by
  intro r
  unfold PySem.W.minD
  induction r generalizing x with
  | nil => rfl
  | cons y r ih =>
    rw [List.map_cons, List.foldl_cons, List.foldl_cons]
    show List.foldl _ (if PySem.W.dataLt (dat (f y)) (dat (f x)) = true then dat (f y) else dat (f x)) _ = _
    rw [O.lt]
    by_cases h : lt y x = true
    · rw [if_pos h, if_pos h]; exact ih y
    · rw [if_neg h, if_neg h]; exact ih x
theorem maxD_map (O : Od f lt n) (x : α) : ∀ r : List α, PySem.W.maxD (dat (f x)) (r.map fun a => dat (f a)) = dat (f (r.foldl (fun a y => if lt a y = true then y else a) x)) := by
  intro r
  unfold PySem.W.maxD
  induction r generalizing x with
  | nil => rfl
  | cons y r ih =>
    rw [List.map_cons, List.foldl_cons, List.foldl_cons]
    show List.foldl _ (if PySem.W.dataLt (dat (f x)) (dat (f y)) = true then dat (f y) else dat (f x)) _ = _
    rw [O.lt]
    by_cases h : lt x y = true
    · rw [if_pos h, if_pos h]; exact ih y
    · rw [if_neg h, if_neg h]; exact ih x
theorem od_none (O : Od f lt n) (a : α) : dat (f a) ≠ .none := by
  rcases O.so with h | h
  · obtain ⟨x, r, e⟩ := h a
    rw [e]; exact fun z => nomatch z
  · exact (h a).1
theorem best_call {b : α} (L : Lw f k) (O : Od f lt n) (hn : n ≤ 60) {mx : Bool} (hb : ∀ x r, xs = x :: r → bestD mx (dat (f x)) (r.map fun a => dat (f a)) = dat (f b)) (hne : xs ≠ []) (hs : SeqV va (xs.map f)) (hC : Cont env1 oa va) {Z : ZS} {H : Hp} {σ : Stt} {Q : VK} {w : V} (hH : Hld X.K Z H σ env1) (r : RepO X.K Z H σ oa w)
    (kk : ∀ w, Rep X.K Z H (f b) w → Q w H) : rBestD X.K mx [w] H Q := by
  obtain ⟨q, us, rfl, nn, rr⟩ := (hC.rep hH r).seq hs
  have hd := RepL.dp (xs.map f) (plL_map O.pl xs) rr
  have ed : datL (xs.map f) = xs.map fun a => dat (f a) := by rw [datL_eq, List.map_map]; rfl
  rw [ed] at hd
  cases xs with
  | nil => exact absurd rfl hne
  | cons x xs =>
    refine ⟨q, us, dat (f x), xs.map fun a => dat (f a), rfl, nn, hd, ⟨fun u hu v hv => ?_, fun u hu => ?_⟩, ?_, fun i w hw hi => ?_⟩
    · obtain ⟨c, _, rfl⟩ := List.mem_map.mp (show u ∈ (x :: xs).map fun a => dat (f a) from hu)
      obtain ⟨e, _, rfl⟩ := List.mem_map.mp (show v ∈ (x :: xs).map fun a => dat (f a) from hv)
      exact O.al c e
    · obtain ⟨c, _, rfl⟩ := List.mem_map.mp (show u ∈ (x :: xs).map fun a => dat (f a) from hu)
      exact od_none O c
    · have := depL_map (f := f) O.dep (x :: xs)
      rw [datL_eq, List.map_map] at this
      exact Nat.le_trans this hn
    · obtain ⟨y, hy, ry⟩ := rr.get' hw
      rw [List.getElem?_map] at hy
      obtain ⟨z, hz, rfl⟩ := Option.map_eq_some_iff.mp hy
      have hi' : ((x :: xs).map fun a => dat (f a))[i]? = some (bestD mx (dat (f x)) (xs.map fun a => dat (f a))) := hi
      rw [List.getElem?_map, hz, hb x xs rfl] at hi'
      have e : z = b := lw_inj L (Option.some.inj hi')
      rw [e] at ry
      exact kk w ry
theorem ev_minT (hc : X.calm = true) (hu : X.A.units + 64 < cLine) (hm : X.mg "min" = none) (L : Lw f k) (O : Od f lt n) (hn : n ≤ 60) (d : α) (hne : xs ≠ []) (ha : Ev X a env oa env1) (hC : Cont env1 oa va) (hs : SeqV va (xs.map f)) (hg : Gl X "min" := by rfl) (hst : starEach [a] X.env = [(false, eval a X.env)] := by rfl) :
    Ev X (.Call (.Name "min" p') [a] [] pos) env (.val (f (minT lt xs d))) env1 :=
  ev_cal (pe_callB (cr_minD hc hu) hg hm (by decide +kernel) (pa_wp _) (by decide) (by decide) (by rw [hst]; rfl) rfl) (ea_cons ha ea_nil (by rw [hst]; rfl)) fun Z H σ Q ws hH rs kk => by
    obtain ⟨w, rfl, r⟩ := rep1 rs
    exact best_call L O hn (b := minT lt xs d) (fun x r e => by subst e; exact minD_map O x r) hne hs hC hH r fun w rw' => kk Z H w (Stp.refl ..) hH rw'
theorem ev_maxT (hc : X.calm = true) (hu : X.A.units + 64 < cLine) (hm : X.mg "max" = none) (L : Lw f k) (O : Od f lt n) (hn : n ≤ 60) (d : α) (hne : xs ≠ []) (ha : Ev X a env oa env1) (hC : Cont env1 oa va) (hs : SeqV va (xs.map f)) (hg : Gl X "max" := by rfl) (hst : starEach [a] X.env = [(false, eval a X.env)] := by rfl) :
    Ev X (.Call (.Name "max" p') [a] [] pos) env (.val (f (maxT lt xs d))) env1 :=
  ev_cal (pe_callB (cr_maxD hc hu) hg hm (by decide +kernel) (pa_wp _) (by decide) (by decide) (by rw [hst]; rfl) rfl) (ea_cons ha ea_nil (by rw [hst]; rfl)) fun Z H σ Q ws hH rs kk => by
    obtain ⟨w, rfl, r⟩ := rep1 rs
    exact best_call L O hn (b := maxT lt xs d) (fun x r e => by subst e; exact maxD_map O x r) hne hs hC hH r fun w rw' => kk Z H w (Stp.refl ..) hH rw'
end
end VL

/-! VL17: lists put together, tuples and lists times an int. -/
namespace VL
open PySem PySem.Spec PyProof.Rows L2

section
variable {X : Cx} {a b : Expr} {env env1 env2 : En} {oa ob : Opd} {p' pos : Pos} {α : Type} {f : α → Val} {xs ys : List α} {k : Int}
theorem op_catL : OpR X (binaryOp .Add) (fun x y H Q => ∃ l b xs zs, x = .ref l ∧ y = .ref b ∧ SqL X.K H l xs ∧ SqL X.K H b zs ∧ xs.length + zs.length ≤ sizeLine ∧ ∀ p, H p = none → Q (.ref p) (upd H p (.lst (xs ++ zs)))) := by
  intro pins s σ H x y v u Q I rx ry h
  obtain ⟨l, b, xs, zs, rfl, rfl, hH, hB, hz, q⟩ := h
  cases rx
  cases ry
  obtain ⟨its, r, ⟨⟨cls, dd, data, sl⟩, n, ho, hc, _, hd⟩, hl⟩ := I.list hH
  obtain ⟨its2, r2, ⟨⟨cls2, dd2, data2, sl2⟩, n2, ho2, hc2, _, hd2⟩, hl2⟩ := I.list hB
  simp only at hc hd hc2 hd2
  subst hc hd hc2 hd2
  have e : its.toArray ++ its2.toArray = (its ++ its2).toArray := by simp
  have z1 : its.length = xs.length := (r.length).symm
  have z2 : its2.length = zs.length := (r2.length).symm
  refine concat_meets ⟨_, ho, rfl⟩ ⟨_, ho2, rfl⟩ noFill_list_add seq_list_add PySem.F.slot_list_add PySem.F.entry_list_add (PySem.F.args_list_add_2 _ _) (list_addW l b its.toArray its2.toArray n n2 dd dd2 sl sl2 (by simp only [List.size_toArray]; omega)) ⟨ho, ho2, ?_⟩
  rw [e]
  exact ⟨.ref _, _, I.lnew (t' := s.toks) (r.append r2) (by rw [List.length_append]; omega), rfl, q _ I.fresh⟩
theorem en_catT (hz : xs.length + ys.length ≤ sizeLine) (ha : Ev X a env oa env1) (hb : Ev X b env1 ob env2) (hca : Cont env2 oa (encL f xs)) (hcb : Cont env2 ob (encL f ys)) : EvN X (.BinOp a .Add b pos) env (encL f (xs ++ ys)) env2 := by
  have e : encL f (xs ++ ys) = .lst (xs.map f ++ ys.map f) := by unfold encL; rw [List.map_append]
  rw [e]
  exact en_cat (by rw [List.length_map, List.length_map]; exact hz) ha hb hca hcb op_catL
/-- a tuple so many times -/
def repT {α : Type} (xs : List α) (k : Int) : List α := (List.replicate k.toNat xs).flatten
theorem repT_map {α : Type} (f : α → Val) (xs : List α) (k : Int) : (repT xs k).map f = (List.replicate k.toNat (xs.map f)).flatten := by
  unfold repT
  rw [List.map_flatten, List.map_replicate]
theorem ev_mulTT (hne : xs ≠ []) (hk : 2 ≤ k ∧ k ≤ 1000) (hl : xs.length ≤ 1000) (ha : Ev X a env (.val (encT f xs)) env1) (hb : Ev X b env1 (.val (.int k)) env2) : Ev X (.BinOp a .Mult b pos) env (.val (encT f (repT xs k))) env2 :=
  ev_bin op_repT ha hb fun Z H σ Q x y hH rx ry kk => by
    have rx' : Rep X.K Z H (encT f xs) x := rx
    obtain ⟨q, us, rfl, n, r⟩ := (show RepT X.K Z H (.tup (xs.map f)) x from .inl rx').tup
    have ey := rep_int' (K := X.K) (Z := Z) (H := H) ry
    have hlen : us.length = xs.length := by have := r.length; rw [List.length_map] at this; exact this.symm
    refine ⟨q, k, us, rfl, ey, n, fun z => hne (List.eq_nil_of_length_eq_zero (by rw [← hlen, z]; rfl)), hk.1, hk.2, by rw [hlen]; exact hl, fun l hl' => ?_⟩
    obtain ⟨h2, s2⟩ := hH.newZ (o := .tup (List.replicate k.toNat us).flatten) hl'
    refine kk _ _ _ s2 h2 ?_
    show Rep _ _ _ (encT f (repT xs k)) _
    unfold encT
    rw [repT_map]
    simp only [Rep]
    refine ⟨l, _, rfl, .inl ⟨.inr rfl, upd_same, ?_⟩, RepL.st s2.zm (hH.zk s2) _ (r.flat _)⟩
    rw [PyProof.Rows.lm_len_rep_flat, hlen, sizeLine_eq]
    have : k.toNat * xs.length ≤ 1000 * 1000 := Nat.mul_le_mul (by omega) hl
    omega
/-- a new list so many times -/
theorem en_mulLT (hz : xs.length * k.toNat ≤ sizeLine) (hk : -(2 ^ 63) ≤ k ∧ k < 2 ^ 63) (ha : EvN X a env (encL f xs) env1) (hb : Ev X b env1 (.val (.int k)) env2) : EvN X (.BinOp a .Mult b pos) env (encL f (repT xs k)) env2 := fun Z H σ Q hH kk => by
  refine wp_pe (pe_op op_rep (pe_wp a) (pe_wp b)) ?_
  refine ha Z H σ _ hH fun Z1 H1 p s1 h1 t nz no fr => ?_
  obtain ⟨ws, ⟨hp, hl⟩, r⟩ := (show ∃ ws, LAt H1 p ws ∧ RepL X.K Z1 H1 (xs.map f) ws from t)
  refine hb Z1 H1 σ _ h1 fun Z2 H2 y s2 h2 ry => ?_
  have ey := rep_int' (K := X.K) (Z := Z2) (H := H2) ry
  have hlen : ws.length = xs.length := by have := r.length; rw [List.length_map] at this; exact this.symm
  refine ⟨p, k, ws, rfl, ey, s2.keep _ _ hp no, hk.1, hk.2, by rw [hlen]; exact hz, fun l hl' => ?_⟩
  obtain ⟨h3, s3, nz3, no3⟩ := h2.newO (o := .lst (List.replicate k.toNat ws).flatten) hl'
  refine kk _ _ _ ((s1.trans s2).trans s3) h3 ⟨_, ⟨upd_same, ?_⟩, ?_⟩ nz3 no3 ((s1.trans s2).back hl')
  · rw [PyProof.Rows.lm_len_rep_flat, hlen, Nat.mul_comm]; exact hz
  · rw [repT_map]
    exact RepL.st s3.zm (h2.zk s3) _ (RepL.st s2.zm (h1.zk s2) _ (r.flat _))
end
end VL

/-! VL18: comprehensions whose test changes what is one's own. -/
namespace VL
open PySem PySem.Spec PyProof.Rows L2

def lcGL {α β S : Type} (t : S → α → Bool × S) (g : S → α → β × S) : S → List α → List β × S
  | s, [] => ([], s)
  | s, x :: xs => if (t s x).1 = true then ((g (t s x).2 x).1 :: (lcGL t g (g (t s x).2 x).2 xs).1, (lcGL t g (g (t s x).2 x).2 xs).2) else lcGL t g (t s x).2 xs
def lcGOk {α β S : Type} (t : S → α → Bool × S) (g : S → α → β × S) (okp okg : S → α → Prop) : S → List α → Prop
  | _, [] => True
  | s, x :: xs => okp s x ∧ if (t s x).1 = true then okg (t s x).2 x ∧ lcGOk t g okp okg (g (t s x).2 x).2 xs else lcGOk t g okp okg (t s x).2 xs
section
variable {X : Cx} {scope : Scope} {tg elt : Expr} {ifs : List Expr} {wi : TI} {env : En} {vs : List Nat} {α β S : Type}
/-- the reading of a comprehension whose test and item may change what is one's own -/
theorem lcG (envS : S → En) (s0 : S) (encA : α → Val) (encB : β → Val) (l : List α) (t : S → α → Bool × S) (g : S → α → β × S) (okp okg : S → α → Prop) (N : Nat) (hsrc : SrcR X.K wi env (l.map encA) (envS s0)) (hok : lcGOk t g okp okg s0 l) (hN : ∀ s, (envS s).length = N)
    (ht : ∀ s x, x ∈ l → okp s x → ∃ envx envt, (∀ s' H0 C cl fp, EvG (Bk X scope s' H0 C cl fp) (oth N vs) tg (encA x) (wipeE (envS s) vs) envx) ∧ wipeE envx vs = wipeE (envS s) vs ∧ EvTA X scope ifs envx (t s x).1 envt ∧
      wipeE envt vs = wipeE (envS (t s x).2) vs ∧ (∀ i ∈ vs, (envS (t s x).2)[i]? = (envS s)[i]?) ∧
      ((t s x).1 = true → okg (t s x).2 x → ∃ envy, (∀ s' H0 C cl fp, Ev (Bk X scope s' H0 C cl fp) elt envt (.val (encB (g (t s x).2 x).1)) envy) ∧ wipeE envy vs = wipeE (envS (g (t s x).2 x).2) vs ∧ ∀ i ∈ vs, (envS (g (t s x).2 x).2)[i]? = (envS s)[i]?)) :
    EvNR X.K (tLc wi (gA X scope tg) (tA X scope ifs) (eA X scope elt) vs) env (.lst ((lcGL t g s0 l).1.map encB)) (envS (lcGL t g s0 l).2) := fun Z H σ Q hH k => by
  refine hsrc Z H σ _ hH fun Z1 H1 J s1 h1 it hz D hD => ?_
  rw [List.length_map] at hz
  have hDz : ¬ Z1 D := h1.fz hD
  have hDo : ¬ Own (envS s0) σ D := h1.fo hD
  have hD0 : H D = none := s1.back hD
  let Pv : Nat → Hp → Prop := fun i H' => ∃ (s : S) (Z' : ZS) (dn : List β) (acc : List V), (lcGL t g s0 l) = (dn ++ (lcGL t g s (l.drop i)).1, (lcGL t g s (l.drop i)).2) ∧ lcGOk t g okp okg s (l.drop i) ∧ dn.length ≤ i ∧
    Stp Z H (Own env σ) Z' H' (fun a => Own (envS s) σ a ∨ a = D) ∧ (∀ a, Z1 a → Z' a) ∧ KeepZ Z1 H1 H' ∧ Hld X.K Z' H' σ (envS s) ∧ H' D = some (.lst acc) ∧ RepL X.K Z' H' (dn.map encB) acc ∧ ¬ Z' D ∧ ¬ Own (envS s) σ D
  have start : Pv 0 (upd H1 D (.lst [])) := by
    obtain ⟨h2, s2, nz, no⟩ := h1.newO (o := .lst []) hD
    refine ⟨s0, Z1, [], [], rfl, hok, Nat.le_refl _, ⟨(s1.trans s2).keep, s1.zm, s1.zn, fun a o => ?_, (s1.trans s2).dom⟩, fun _ z => z, fun b u z e => by rw [upd_ne (fun q : b = D => hDz (by rw [← q]; exact z))]; exact e, h2, upd_same, RepL.nil, nz, no⟩
    rcases o with o | rfl
    · exact s1.on a o
    · exact .inr hD0
  refine ⟨fun i m H' => m = l.length - i ∧ i ≤ l.length ∧ Pv i H', ⟨l.length, by simp, Nat.zero_le _, start⟩, ?_⟩
  rintro i m H' ⟨rfl, hi, s, Z', dn, acc, e1, e2, hdn, st, zm1, kz1, hh, hacc, racc, nzD, noD⟩
  by_cases hlt : i < l.length
  · right
    refine ⟨it.go i H' (by rw [List.length_map]; exact hlt) kz1, Pv (i + 1), fun H'' q => ⟨l.length - (i + 1), by omega, rfl, hlt, q⟩, fun x H'' y => ?_⟩
    have hx : l[i]? = some l[i] := List.getElem?_eq_getElem hlt
    have hmem : l[i] ∈ l := List.getElem_mem hlt
    have ed : l.drop i = l[i] :: l.drop (i + 1) := List.drop_eq_getElem_cons hlt
    generalize l[i] = xi at hx hmem ed
    obtain ⟨Z2, s2, h2, rx⟩ := it.yld i x Z' H' H'' σ (envS s) zm1 kz1 hh y (encA xi) (by rw [List.getElem?_map, hx]; rfl)
    have hDD : H'' D = some (.lst acc) := it.keepD i x H' H'' y D _ hacc
    have nzD2 : ¬ Z2 D := fun z => by
      rcases s2.zn D z with z | z | z
      · exact nzD z
      · exact noD z
      · rw [hacc] at z; cases z
    have kz2 : KeepZ Z' H' H'' := fun b u z e => it.keepD i x H' H'' y b u e
    rw [ed] at e1 e2
    obtain ⟨envx, envt, hg, hwx, htst, hwt, hvt, hel⟩ := ht s xi hmem e2.1
    have hw := h2.wipe vs
    intro s' H0 C cl fp
    refine hg s' H0 C cl fp Z2 H'' (wipe σ vs) _ x hw rx fun Z3 H3 σ3 s3 h3 f3 => ?_
    have hN' : σ.length = N := by rw [← h2.len]; exact hN s
    have f3' : Fix (oth σ.length vs) (wipe σ vs) σ3 := by rw [hN']; exact f3
    have lenx : envx.length = (envS s).length := by
      have e := congrArg List.length hwx
      rwa [wipeE_len, wipeE_len] at e
    have lens : σ3.length = σ.length := by rw [← h3.len, lenx, h2.len]
    refine ⟨wipe_fix lens f3', ?_⟩
    -- an address that is not in the block's hands stays
    have dStay : ∀ {Za : ZS} {Ha : Hp} {Oa Zb : ZS} {Hb : Hp} {Ob : ZS}, Stp Za Ha Oa Zb Hb Ob → ¬ Oa D → ¬ Za D → Ha D = some (.lst acc) → Hb D = some (.lst acc) ∧ ¬ Zb D ∧ ¬ Ob D := fun {Za Ha Oa Zb Hb Ob} q no nz e => ⟨q.keep D _ e no, (fun z => by
      rcases q.zn D z with z | z | z
      · exact nz z
      · exact no z
      · rw [e] at z; cases z), (fun o => by
      rcases q.on D o with o | o
      · exact no o
      · rw [e] at o; cases o)⟩
    have noW : ¬ Own (wipeE (envS s) vs) (wipe σ vs) D := fun o => by
      obtain ⟨j, u, _, e, q⟩ := wipe_own o
      exact noD ⟨j, u, e, q⟩
    obtain ⟨d3, nz3, no3⟩ := dStay s3 noW nzD2 hDD
    refine htst Z3 H3 σ3 _ h3 fun Z4 H4 s4 h4 => ?_
    obtain ⟨d4, nz4, no4⟩ := dStay s4 no3 nz3 d3
    -- back outside
    have back : ∀ {Zy : ZS} {Hy : Hp} {envy : En} {sy : S}, Stp Z2 H'' (Own (wipeE (envS s) vs) (wipe σ vs)) Zy Hy (Own envy σ3) → Hld X.K Zy Hy σ3 envy → wipeE envy vs = wipeE (envS sy) vs → (∀ i ∈ vs, (envS sy)[i]? = (envS s)[i]?) →
        Hld X.K Zy Hy σ (envS sy) ∧ Stp Z2 H'' (Own (envS s) σ) Zy Hy (Own (envS sy) σ) := fun {Zy Hy envy sy} q hy w v => h2.unwipe q hy f3' w v (by rw [hN, hN])
    have kz3 : ∀ {Zy : ZS} {Hy : Hp} {Oy : ZS}, Stp Z2 H'' (Own (envS s) σ) Zy Hy Oy → KeepZ Z1 H1 Hy ∧ ∀ a, Z1 a → Zy a := fun {Zy Hy Oy} q =>
      ⟨fun b u z e => q.keep b u (kz2 b u (zm1 b z) (kz1 b u z e)) fun o => h2.oz o (s2.zm b (zm1 b z)), fun a z => q.zm a (s2.zm a (zm1 a z))⟩
    cases hp : (t s xi).1 with
    | false =>
      rw [if_neg (by decide)]
      obtain ⟨h5, s5⟩ := back (sy := (t s xi).2) (s3.trans s4) h4 hwt hvt
      obtain ⟨d5, nz5, no5⟩ := dStay s5 noD nzD2 hDD
      obtain ⟨kz5, zm5⟩ := kz3 s5
      refine ⟨(t s xi).2, Z4, dn, acc, ?_, ?_, by omega, ?_, zm5, kz5, h5, d5, ?_, nz5, no5⟩
      · have q : lcGL t g s (xi :: l.drop (i + 1)) = lcGL t g (t s xi).2 (l.drop (i + 1)) := by
          show (if (t s xi).1 = true then _ else _) = _
          rw [hp]; rfl
        rw [e1, q]
      · have q := e2.2
        rw [if_neg (by rw [hp]; decide)] at q
        exact q
      · exact st.trans ((s2.trans s5).more fun a => a = D)
      · exact RepL.st (fun a z => s5.zm a (s2.zm a z)) (fun b u z e => s5.keep b u (kz2 b u z e) fun o => h2.oz o (s2.zm b z)) _ racc
    | true =>
      rw [if_pos rfl]
      have e22 := e2.2
      rw [if_pos hp] at e22
      obtain ⟨envy, hev, hwy, hvy⟩ := hel hp e22.1
      intro s'' H0' C' cl' fp'
      refine hev s'' H0' C' cl' fp' Z4 H4 σ3 _ h4 fun Z5 H5 w s5 h5 rw5 => ?_
      obtain ⟨h6, s6⟩ := back (sy := (g (t s xi).2 xi).2) ((s3.trans s4).trans s5) h5 hwy hvy
      obtain ⟨d6, nz6, no6⟩ := dStay s6 noD nzD2 hDD
      obtain ⟨kz6, zm6⟩ := kz3 s6
      have racc5 : RepL X.K Z5 H5 (dn.map encB) acc := RepL.st (fun a z => s6.zm a (s2.zm a z)) (fun b u z e => s6.keep b u (kz2 b u z e) fun o => h2.oz o (s2.zm b z)) _ racc
      have hlen := racc5.length
      rw [List.length_map] at hlen
      have hsz : acc.length < sizeLine := by omega
      refine ⟨acc, d6, hsz, ?_⟩
      obtain ⟨h7, zk7⟩ := h6.bump (o := .lst (acc ++ [w])) d6 nz6 no6
      refine ⟨(g (t s xi).2 xi).2, Z5, dn ++ [(g (t s xi).2 xi).1], acc ++ [w], ?_, e22.2, by rw [List.length_append, List.length_singleton]; omega, ?_, zm6, fun b u z e => zk7 b u (zm6 b z) (kz6 b u z e), h7, upd_same, ?_, nz6, no6⟩
      · have q : lcGL t g s (xi :: l.drop (i + 1)) = ((g (t s xi).2 xi).1 :: (lcGL t g (g (t s xi).2 xi).2 (l.drop (i + 1))).1, (lcGL t g (g (t s xi).2 xi).2 (l.drop (i + 1))).2) := by
          show (if (t s xi).1 = true then _ else _) = _
          rw [if_pos hp]
        rw [e1, q, List.append_assoc]; rfl
      · have q := st.trans ((s2.trans s6).more fun a => a = D)
        exact q.trans ⟨fun a o e n => by rw [upd_ne (fun z => n (.inr z))]; exact e, fun _ z => z, fun _ z => .inl z, fun _ z => .inl z, fun a o e => by
          by_cases z : a = D
          · exact ⟨_, by rw [z]; exact upd_same⟩
          · exact ⟨o, by rw [upd_ne z]; exact e⟩⟩
      · rw [List.map_append]
        have racc7 := RepL.st (fun _ z => z) zk7 _ racc5
        exact RepL.append racc7 (RepL.one (Rep.st (fun _ z => z) zk7 _ rw5))
  · left
    have ei : i = l.length := by omega
    subst ei
    refine ⟨by have := it.stop H' kz1; rwa [List.length_map] at this, ?_⟩
    rw [List.drop_length] at e1
    have e3 : lcGL t g s0 l = (dn, s) := by rw [e1]; simp [lcGL]
    rw [e3] at k
    exact k Z' H' D (st.sub fun a o => .inl o) hh ⟨acc, ⟨hacc, by have := racc.length; rw [List.length_map] at this; omega⟩, racc⟩ nzD noD hD0
end

/-! ### paths to expressions -/
def stEx : Stmt → Expr
  | .Assign _ e _ => e
  | .AugAssign _ _ e _ => e
  | .Expr e _ => e
  | .Return (some e) _ => e
  | .If e _ _ _ => e
  | .While e _ _ _ => e
  | .For _ e _ _ _ => e
  | _ => .Constant .none 0 ⟨0, 0, 0, 0⟩
def exSub : Expr → List Expr
  | .Call f as _ _ => f :: as
  | .BinOp a _ b _ => [a, b]
  | .UnaryOp _ a _ => [a]
  | .BoolOp _ vs _ => vs
  | .Compare a _ bs _ => a :: bs
  | .IfExp c a b _ => [c, a, b]
  | .Tuple es _ _ => es
  | .List es _ => es
  | .Subscript a b _ => [a, b]
  | .Attribute a _ _ => [a]
  | _ => []
def exAt (e : Expr) (i : Nat) : Expr := (exSub e).getD i (.Constant .none 0 ⟨0, 0, 0, 0⟩)
def lcScope : Expr → Scope
  | .ListComp _ _ s _ => s
  | _ => { kind := .function, names := [], isGenerator := false, isCoroutine := false }
def lcElt : Expr → Expr
  | .ListComp e _ _ _ => e
  | e => e
def lcTg : Expr → Expr
  | .ListComp _ (⟨t, _, _, _⟩ :: _) _ _ => t
  | e => e
def lcIter : Expr → Expr
  | .ListComp _ (⟨_, t, _, _⟩ :: _) _ _ => t
  | e => e
def lcIfs : Expr → List Expr
  | .ListComp _ (⟨_, _, c, _⟩ :: _) _ _ => c
  | _ => []
section
variable {X : Cx} {e : Expr} {env env1 env2 : En} {v u : Val} {K : PySem.W.Frag} {t : TE}
theorem EvN.toG (h : EvN X e env u env1) (ev : u = v) (ee : env1 = env2) : EvN X e env v env2 := by subst ev; subst ee; exact h
theorem EvNR.toG (h : EvNR K t env u env1) (ev : u = v) (ee : env1 = env2) : EvNR K t env v env2 := by subst ev; subst ee; exact h
end
end VL

/-! VL19: and, or whose later parts change what is one's own. -/
namespace VL
open PySem PySem.Spec PyProof.Rows L2
section
variable {X : Cx} {a b : Expr} {rest : List Expr} {env env1 env2 : En} {pos : Pos} {p : Bool} {S : Type} {s1 : S} {E : Bool × S} {o : Opd}
theorem ew_orS (envS : S → En) (ha : EvT X a env p (envS s1)) (h1 : p = false → EvW X (.BoolOp .Or (b :: rest) pos) (envS s1) E.1 (envS E.2)) : EvW X (.BoolOp .Or (a :: b :: rest) pos) env (if p = true then (true, s1) else E).1 (envS (if p = true then (true, s1) else E).2) :=
  ew_orG ha (fun e => by subst e; exact h1 rfl) fun e => by subst e; exact ⟨rfl, rfl⟩
theorem ew_andS (envS : S → En) (ha : EvT X a env p (envS s1)) (h1 : p = true → EvW X (.BoolOp .And (b :: rest) pos) (envS s1) E.1 (envS E.2)) : EvW X (.BoolOp .And (a :: b :: rest) pos) env (if p = true then E else (false, s1)).1 (envS (if p = true then E else (false, s1)).2) :=
  ew_andG ha (fun e => by subst e; exact h1 rfl) fun e => by subst e; exact ⟨rfl, rfl⟩
theorem ev_orS (envS : S → En) (ha : Ev X a env (.val (.bl p)) (envS s1)) (h1 : p = false → Ev X (.BoolOp .Or (b :: rest) pos) (envS s1) (.val (.bl E.1)) (envS E.2)) : Ev X (.BoolOp .Or (a :: b :: rest) pos) env (.val (.bl (if p = true then (true, s1) else E).1)) (envS (if p = true then (true, s1) else E).2) :=
  ev_orG ha (fun e => by subst e; exact h1 rfl) fun e => by subst e; exact ⟨rfl, rfl⟩
theorem ev_andS (envS : S → En) (ha : Ev X a env (.val (.bl p)) (envS s1)) (h1 : p = true → Ev X (.BoolOp .And (b :: rest) pos) (envS s1) (.val (.bl E.1)) (envS E.2)) : Ev X (.BoolOp .And (a :: b :: rest) pos) env (.val (.bl (if p = true then E else (false, s1)).1)) (envS (if p = true then E else (false, s1)).2) :=
  ev_andG ha (fun e => by subst e; exact h1 rfl) fun e => by subst e; exact ⟨rfl, rfl⟩
theorem EvT.to {q : Bool} (h : EvT X a env p env1) (hp : p = q) (e : env1 = env2) : EvT X a env q env2 := by subst hp; subst e; exact h
theorem Ev.to {u : Opd} (h : Ev X a env o env1) (hp : o = u) (e : env1 = env2) : Ev X a env u env2 := by subst hp; subst e; exact h
end
end VL

/-! VL20: ranges of ints of any size. -/
namespace VL
open PySem PySem.Spec PyProof.Rows L2

theorem turn_long {P : Program} {w : World} {K : PySem.W.Frag} {tg : Expr} (it : Addr) (lo : Int) (n : Nat) : Turn P w K tg (Itr lo n) [it] it (fun i h => IsLongIter h it (lo + (i : Nat) * 1) ((n : Int) - (i : Nat)) 1) where
  mem := by simp
  obj := fun i h st b hb => by
    have e : b = it := by simpa using hb
    subst e
    exact ⟨_, st, fun v z => by
      have z' : Data.fields _ = Data.cell v := z
      cases z'⟩
  keep := fun i h h' st k => k it (by simp) _ st
  item := by
    intro X hP hw hK hc i pins s σ H E I hf st hg
    subst hP hw hK
    obtain ⟨f0, f1, f2, f3, f4, f5⟩ := hf it (by simp)
    have W := Walks.longrange (prog := X.prog) (w := X.w) (I.ok.hd hc) it lo 1 n
    refine W.item i s _ _ hg st fun v h' tk hv st' kk => ?_
    obtain ⟨t, rfl⟩ := hv
    have I1 : L2.Inv X pins σ H { s with heap := h', toks := tk } := I.turned (fun b o hb e => kk b o (by simpa using hb) e) f0 f1 f3 f4 f5
    refine ⟨_, rfl, go_of (s := { s with heap := h', toks := tk }) (n := "longrange_iterator") st' rfl rfl (by decide) ⟨.int (lo + i), H, I1, ⟨t, ?_⟩, ⟨rfl, rfl⟩, st', fun b hb => (hf b hb).1⟩⟩
    rw [Int.mul_one]
  done := by
    intro X hP hw hK hc i pins s σ H E I hf st hg
    subst hP hw hK
    obtain ⟨f0, f1, f2, f3, f4, f5⟩ := hf it (by simp)
    exact wpAny_pyNext_long_end (I.ok.hd hc) st (by have : n ≤ i := hg; omega) fun h' eb => ⟨rfl, I.turned (t' := s.toks) (fun b o hb e => eb b o hb e) f0 f1 f3 f4 f5⟩
  self := fun _ _ _ _ _ st h => wpAny_pyIter_longiter st h
section
variable {X : Cx} {tg : Expr}
theorem range_itW {pins : List (Addr × Obj)} {σ : L2.St} {H : Hp} {s : Shared} {R : It → Hp → Prop} {E : Value → Shared → Prop} {lo hi : Int} {t u v : Tok} {tk : Nat} (I : L2.Inv X pins σ H s)
    (q : R (Itr lo (hi - lo).toNat) H) : wpAny (model X.prog X.w) X.A (pyIter (.ref s.heap.objs.size)) (PIE X pins σ tg R) E { s with heap := s.heap.push { cls := .type "range", data := .fields #[.int lo t, .int hi u, .int 1 v] }, toks := tk } := by
  have I1 : L2.Inv X pins σ H { s with heap := s.heap.push { cls := .type "range", data := .fields #[.int lo t, .int hi u, .int 1 v] }, toks := tk } := I.kept fun b o e => Heap.get?_push_of_some _ e
  have e1 : lo + ((0 : Nat) : Int) * 1 = lo := by simp
  have e2 : (((hi - lo).toNat : Nat) : Int) - ((0 : Nat) : Int) = Builtin.Range.rangeSize lo hi 1 := by rw [rangeSize_one]; split <;> omega
  cases hs : Builtin.Range.small lo hi 1 with
  | true =>
    refine wpAny_pyIter_range (IsRange.new ..) hs ?_
    refine ⟨(s.heap.push { cls := .type "range", data := .fields #[.int lo t, .int hi u, .int 1 v] }).objs.size, [(s.heap.push { cls := .type "range", data := .fields #[.int lo t, .int hi u, .int 1 v] }).objs.size], _, _, H, rfl,
      I1.kept (t' := tk) fun b o e => Heap.get?_push_of_some _ e, turn_range _ lo (hi - lo).toNat, ?_, fun b hb => ?_, q⟩
    · show IsRangeIter _ _ (lo + ((0 : Nat) : Int) * 1) ((((hi - lo).toNat : Nat) : Int) - ((0 : Nat) : Int)) 1
      rw [e1, e2]
      exact Heap.get?_push_size _ rfl
    · have e : b = (s.heap.push { cls := .type "range", data := .fields #[.int lo t, .int hi u, .int 1 v] }).objs.size := by simpa using hb
      subst e
      exact I1.fpOk (Nat.le_refl _) (I1.hok.fresh (Nat.le_refl _))
  | false =>
    refine wpAny_pyIter_longrange (IsRange.new ..) hs ?_
    refine ⟨(s.heap.push { cls := .type "range", data := .fields #[.int lo t, .int hi u, .int 1 v] }).objs.size, [(s.heap.push { cls := .type "range", data := .fields #[.int lo t, .int hi u, .int 1 v] }).objs.size], _, _, H, rfl,
      I1.kept (t' := tk) fun b o e => Heap.get?_push_of_some _ e, turn_long _ lo (hi - lo).toNat, ?_, fun b hb => ?_, q⟩
    · show IsLongIter _ _ (lo + ((0 : Nat) : Int) * 1) ((((hi - lo).toNat : Nat) : Int) - ((0 : Nat) : Int)) 1
      rw [e1, e2]
      exact Heap.get?_push_size _ rfl
    · have e : b = (s.heap.push { cls := .type "range", data := .fields #[.int lo t, .int hi u, .int 1 v] }).objs.size := by simpa using hb
      subst e
      exact I1.fpOk (Nat.le_refl _) (I1.hok.fresh (Nat.le_refl _))
def iW1 (ta : TA) : TI := fun σ H R => ta σ H fun vs H1 => ∃ j : Int, vs = [.int j] ∧ R (Itr 0 j.toNat) H1
def iW2 (ta : TA) : TI := fun σ H R => ta σ H fun vs H1 => ∃ i j : Int, vs = [.int i, .int j] ∧ R (Itr i (j - i).toNat) H1
theorem pi_rangeW1 {a : Expr} {ta : TA} {p pos : Pos} (hg : Gl X "range") (hm : X.mg "range" = none) (ha : PA X [a] ta) (hs : starEach [a] X.env = [(false, eval a X.env)] := by rfl) : PI X tg (.Call (.Name "range" p) [a] [] pos) (iW1 ta) := by
  refine ⟨fun pins s σ H R I h => ?_⟩
  refine Call_ (ld_blt I hg hm boot_range (PyProof.Rows.callWith_type1 (thn (ha.run pos pins s σ H _ I h) fun us s1 ⟨vs, H1, I1, r1, q1⟩ => ?_) hs rfl))
  obtain ⟨j, e, q⟩ := q1
  subst e
  cases r1 with
  | cons r rr =>
    cases rr
    obtain ⟨t, rfl⟩ := r
    exact call_range_1 (range_itW I1 (by simpa using q))
theorem pi_rangeW2 {a b : Expr} {ta : TA} {p pos : Pos} (hg : Gl X "range") (hm : X.mg "range" = none) (ha : PA X [a, b] ta) (hs : starEach [a, b] X.env = [(false, eval a X.env), (false, eval b X.env)] := by rfl) (hs2 : starEach [b] X.env = [(false, eval b X.env)] := by rfl) :
    PI X tg (.Call (.Name "range" p) [a, b] [] pos) (iW2 ta) := by
  refine ⟨fun pins s σ H R I h => ?_⟩
  refine Call_ (ld_blt I hg hm boot_range (PyProof.Rows.callWith_type1 (thn (ha.run pos pins s σ H _ I h) fun us s1 ⟨vs, H1, I1, r1, q1⟩ => ?_) (by rw [hs, hs2]) (by rw [hs2]; rfl)))
  obtain ⟨i, j, e, q⟩ := q1
  subst e
  cases r1 with
  | cons r rr =>
    cases rr with
    | cons r' rr =>
      cases rr
      obtain ⟨t, rfl⟩ := r
      obtain ⟨t', rfl⟩ := r'
      exact call_range_2 (range_itW I1 q)
end
section
variable {X : Cx} {M : List Nat} {body : List Stmt} {tg iter c a b : Expr} {env env1 env2 : En} {va : Val} {pos p p' : Pos} {S R : Type} {m n : Int}
theorem src_w1 (ha : Ev X a env (.val (.int n)) env1) (hn : n ≤ 16777216) (hst : starEach [a] X.env = [(false, eval a X.env)] := by rfl) : SrcR X.K (iW1 (wpA X [a])) env ((irange 0 n).map Val.int) env1 := fun Z H σ R hH k =>
  (ea_cons ha ea_nil (by rw [hst]; rfl) : EvA X [a] env [.val (.int n)] env1) Z H σ _ hH fun Z1 H1 ws s h1 rs => by
    obtain ⟨w, rfl, r1⟩ := rep1 rs
    refine ⟨n, by rw [rep_int' (K := X.K) (Z := Z1) (H := H1) r1], ?_⟩
    have q := k Z1 H1 (Itr 0 (n - 0).toNat) s h1 itv_rng (by rw [List.length_map, irange_len, sizeLine_eq]; omega)
    rw [Int.sub_zero] at q
    exact q
theorem src_w2 (ha : Ev X a env (.val (.int m)) env1) (hb : Ev X b env1 (.val (.int n)) env2) (hn : n ≤ m + 16777216) (hst : starEach [a, b] X.env = [(false, eval a X.env), (false, eval b X.env)] := by rfl) (hst2 : starEach [b] X.env = [(false, eval b X.env)] := by rfl) :
    SrcR X.K (iW2 (wpA X [a, b])) env ((irange m n).map Val.int) env2 := fun Z H σ R hH k =>
  (ea_cons ha (ea_cons hb ea_nil (by rw [hst2]; rfl)) (by rw [hst, hst2]) : EvA X [a, b] env [.val (.int m), .val (.int n)] env2) Z H σ _ hH fun Z1 H1 ws s h1 rs => by
    obtain ⟨w, w', rfl, r1, r2⟩ := rep2 rs
    exact ⟨m, n, by rw [rep_int' (K := X.K) (Z := Z1) (H := H1) r1, rep_int' (K := X.K) (Z := Z1) (H := H1) r2], k Z1 H1 _ s h1 itv_rng (by rw [List.length_map, irange_len, sizeLine_eq]; omega)⟩
theorem es_forRW1 {envS : S → En} {outR : R → Out} (f : S → Int → LO S R) (ok : S → Int → Prop) (n : Int) (s0 : S) (hcalm : X.calm = true) (hp : PassesOwn (model X.prog X.w) X.A X.env X.xe) (hm : X.mg "range" = none)
    (ha : Ev X a env (.val (.int n)) (envS s0)) (hok : loopOk f ok s0 (irange 0 n))
    (hb : ∀ s x, x ∈ irange 0 n → ok s x → ∃ envt o, EvG X M tg (.int x) (envS s) envt ∧ EvSs X M body envt o ∧ Lo envS outR o (f s x)) (hg : Gl X "range" := by rfl) (hst : starEach [a] X.env = [(false, eval a X.env)] := by rfl)
    (hf : ∀ x, foldedSetIterable (.Call (.Name "range" p) [a] [] p') X.env x = pure x := by intro _; rfl) : EvS X M (.For tg (.Call (.Name "range" p) [a] [] p') body [] pos) env (outL envS outR (loopL f s0 (irange 0 n))) := fun Z H σ D hH P => by
  refine wp_ps (ps_for hp hcalm (pi_rangeW1 hg hm (pa_wp [a]) hst) (pg_wp tg) (pss_wp body) hf) ?_
  refine (ea_cons ha ea_nil (by rw [hst]; rfl) : EvA X [a] env [.val (.int n)] (envS s0)) Z H σ _ hH fun Z1 H1 ws s1 h1 rs => ?_
  obtain ⟨w, rfl, r1⟩ := rep1 rs
  refine ⟨n, by rw [rep_int' (K := X.K) (Z := Z1) (H := H1) r1], ?_⟩
  have e : (n - 0).toNat = n.toNat := by rw [Int.sub_zero]
  have q := for_rangeE (X := X) (tg := tg) (body := body) f ok 0 n s0 P s1 h1 hok hb
  rw [e] at q
  exact q
theorem es_forRW2 {envS : S → En} {outR : R → Out} (f : S → Int → LO S R) (ok : S → Int → Prop) (m n : Int) (s0 : S) (hcalm : X.calm = true) (hp : PassesOwn (model X.prog X.w) X.A X.env X.xe) (hm : X.mg "range" = none)
    (ha : Ev X a env (.val (.int m)) env1) (hb' : Ev X b env1 (.val (.int n)) (envS s0)) (hok : loopOk f ok s0 (irange m n))
    (hb : ∀ s x, x ∈ irange m n → ok s x → ∃ envt o, EvG X M tg (.int x) (envS s) envt ∧ EvSs X M body envt o ∧ Lo envS outR o (f s x)) (hg : Gl X "range" := by rfl) (hst : starEach [a, b] X.env = [(false, eval a X.env), (false, eval b X.env)] := by rfl) (hst2 : starEach [b] X.env = [(false, eval b X.env)] := by rfl)
    (hf : ∀ x, foldedSetIterable (.Call (.Name "range" p) [a, b] [] p') X.env x = pure x := by intro _; rfl) : EvS X M (.For tg (.Call (.Name "range" p) [a, b] [] p') body [] pos) env (outL envS outR (loopL f s0 (irange m n))) := fun Z H σ D hH P => by
  refine wp_ps (ps_for hp hcalm (pi_rangeW2 hg hm (pa_wp [a, b]) hst hst2) (pg_wp tg) (pss_wp body) hf) ?_
  refine (ea_cons ha (ea_cons hb' ea_nil (by rw [hst2]; rfl)) (by rw [hst, hst2]) : EvA X [a, b] env [.val (.int m), .val (.int n)] (envS s0)) Z H σ _ hH fun Z1 H1 ws s1 h1 rs => ?_
  obtain ⟨w, w', rfl, r1, r2⟩ := rep2 rs
  refine ⟨m, n, by rw [rep_int' (K := X.K) (Z := Z1) (H := H1) r1, rep_int' (K := X.K) (Z := Z1) (H := H1) r2], ?_⟩
  exact for_rangeE (X := X) (tg := tg) (body := body) f ok m n s0 P s1 h1 hok hb
theorem es_forFW1 (envS : S → En) (f : S → Int → S) (ok : S → Int → Prop) (n : Int) (s0 : S) (hcalm : X.calm = true) (hp : PassesOwn (model X.prog X.w) X.A X.env X.xe) (hm : X.mg "range" = none)
    (ha : Ev X a env (.val (.int n)) (envS s0)) (hok : foldOk f ok s0 (irange 0 n))
    (hb : ∀ s x, x ∈ irange 0 n → ok s x → ∃ envt, EvG X M tg (.int x) (envS s) envt ∧ EvSs X M body envt (.nx (envS (f s x)))) (hg : Gl X "range" := by rfl) (hst : starEach [a] X.env = [(false, eval a X.env)] := by rfl)
    (hf : ∀ x, foldedSetIterable (.Call (.Name "range" p) [a] [] p') X.env x = pure x := by intro _; rfl) : EvS X M (.For tg (.Call (.Name "range" p) [a] [] p') body [] pos) env (.nx (envS ((irange 0 n).foldl f s0))) := by
  have q := es_forRW1 (R := Empty) (X := X) (M := M) (envS := envS) (outR := fun x => nomatch x) (tg := tg) (body := body) (pos := pos) (p := p) (p' := p') (fun s x => .nx (f s x)) ok n s0 hcalm hp hm ha (loopOk_nx hok) (fun s x hx hx' => by
    obtain ⟨envt, h1, h2⟩ := hb s x hx hx'
    exact ⟨envt, _, h1, h2, .nx _⟩) hg hst hf
  rw [loopL_nx] at q
  exact q
theorem es_forFW2 (envS : S → En) (f : S → Int → S) (ok : S → Int → Prop) (m n : Int) (s0 : S) (hcalm : X.calm = true) (hp : PassesOwn (model X.prog X.w) X.A X.env X.xe) (hm : X.mg "range" = none)
    (ha : Ev X a env (.val (.int m)) env1) (hb' : Ev X b env1 (.val (.int n)) (envS s0)) (hok : foldOk f ok s0 (irange m n))
    (hb : ∀ s x, x ∈ irange m n → ok s x → ∃ envt, EvG X M tg (.int x) (envS s) envt ∧ EvSs X M body envt (.nx (envS (f s x)))) (hg : Gl X "range" := by rfl) (hst : starEach [a, b] X.env = [(false, eval a X.env), (false, eval b X.env)] := by rfl) (hst2 : starEach [b] X.env = [(false, eval b X.env)] := by rfl)
    (hf : ∀ x, foldedSetIterable (.Call (.Name "range" p) [a, b] [] p') X.env x = pure x := by intro _; rfl) : EvS X M (.For tg (.Call (.Name "range" p) [a, b] [] p') body [] pos) env (.nx (envS ((irange m n).foldl f s0))) := by
  have q := es_forRW2 (R := Empty) (X := X) (M := M) (envS := envS) (outR := fun x => nomatch x) (tg := tg) (body := body) (pos := pos) (p := p) (p' := p') (fun s x => .nx (f s x)) ok m n s0 hcalm hp hm ha hb' (loopOk_nx hok) (fun s x hx hx' => by
    obtain ⟨envt, h1, h2⟩ := hb s x hx hx'
    exact ⟨envt, _, h1, h2, .nx _⟩) hg hst hst2 hf
  rw [loopL_nx] at q
  exact q
theorem es_forLW1 {envS : S → En} {outR : R → Out} (hr : ∀ r, IsRt (outR r)) (f : S → Int → LO S R) (ok : S → Int → Prop) (n : Int) (s0 : S) (hcalm : X.calm = true) (hp : PassesOwn (model X.prog X.w) X.A X.env X.xe) (hm : X.mg "range" = none)
    (ha : Ev X a env (.val (.int n)) (envS s0)) (hok : loopOk f ok s0 (irange 0 n))
    (hb : ∀ s x, x ∈ irange 0 n → ok s x → ∃ envt, EvG X M tg (.int x) (envS s) envt ∧ EvSs X M body envt (outLO envS outR (f s x))) (hg : Gl X "range" := by rfl) (hst : starEach [a] X.env = [(false, eval a X.env)] := by rfl)
    (hf : ∀ x, foldedSetIterable (.Call (.Name "range" p) [a] [] p') X.env x = pure x := by intro _; rfl) : EvS X M (.For tg (.Call (.Name "range" p) [a] [] p') body [] pos) env (outL envS outR (loopL f s0 (irange 0 n))) :=
  es_forRW1 f ok n s0 hcalm hp hm ha hok (fun s x hx hx' => by
    obtain ⟨envt, h1, h2⟩ := hb s x hx hx'
    exact ⟨envt, _, h1, h2, lo_of hr _⟩) hg hst hf
theorem es_forLW2 {envS : S → En} {outR : R → Out} (hr : ∀ r, IsRt (outR r)) (f : S → Int → LO S R) (ok : S → Int → Prop) (m n : Int) (s0 : S) (hcalm : X.calm = true) (hp : PassesOwn (model X.prog X.w) X.A X.env X.xe) (hm : X.mg "range" = none)
    (ha : Ev X a env (.val (.int m)) env1) (hb' : Ev X b env1 (.val (.int n)) (envS s0)) (hok : loopOk f ok s0 (irange m n))
    (hb : ∀ s x, x ∈ irange m n → ok s x → ∃ envt, EvG X M tg (.int x) (envS s) envt ∧ EvSs X M body envt (outLO envS outR (f s x))) (hg : Gl X "range" := by rfl) (hst : starEach [a, b] X.env = [(false, eval a X.env), (false, eval b X.env)] := by rfl) (hst2 : starEach [b] X.env = [(false, eval b X.env)] := by rfl)
    (hf : ∀ x, foldedSetIterable (.Call (.Name "range" p) [a, b] [] p') X.env x = pure x := by intro _; rfl) : EvS X M (.For tg (.Call (.Name "range" p) [a, b] [] p') body [] pos) env (outL envS outR (loopL f s0 (irange m n))) :=
  es_forRW2 f ok m n s0 hcalm hp hm ha hb' hok (fun s x hx hx' => by
    obtain ⟨envt, h1, h2⟩ := hb s x hx hx'
    exact ⟨envt, _, h1, h2, lo_of hr _⟩) hg hst hst2 hf
end
end VL

/-! VL21: plain lemmas: ranges, loops, least and greatest, sorted lists, divisors. -/
namespace VL
open PySem PySem.Spec PyProof.Rows L2

theorem mem_irange {a b x : Int} : x ∈ irange a b ↔ a ≤ x ∧ x < b := by
  unfold irange
  rw [List.mem_map]
  constructor
  · rintro ⟨k, hk, rfl⟩
    have := List.mem_range.mp hk
    omega
  · rintro ⟨h1, h2⟩
    exact ⟨(x - a).toNat, List.mem_range.mpr (by omega), by omega⟩
theorem irange_nil {a b : Int} (h : b ≤ a) : irange a b = [] := by
  unfold irange
  have : (b - a).toNat = 0 := by omega
  rw [this]; rfl
theorem irange_cons {a b : Int} (h : a < b) : irange a b = a :: irange (a + 1) b := by
  unfold irange
  have : (b - a).toNat = (b - (a + 1)).toNat + 1 := by omega
  rw [this, List.range_succ_eq_map, List.map_cons, List.map_map]
  congr 1
  · simp
  · apply List.map_congr_left
    intro k _
    simp only [Function.comp]
    omega
theorem irange_append {a b c : Int} (h1 : a ≤ b) (h2 : b ≤ c) : irange a c = irange a b ++ irange b c := by
  have : ∀ (n : Nat) (a : Int), a ≤ b → (b - a).toNat = n → irange a c = irange a b ++ irange b c := by
    intro n
    induction n with
    | zero =>
      intro a ha e
      have : a = b := by omega
      subst this
      rw [irange_nil (Int.le_refl a)]; rfl
    | succ n ih =>
      intro a ha e
      rw [irange_cons (show a < c by omega), irange_cons (show a < b by omega), ih (a + 1) (by omega) (by omega)]
      rfl
  exact this _ a h1 rfl
theorem irange_ne {a b : Int} (h : a < b) : irange a b ≠ [] := by rw [irange_cons h]; exact List.cons_ne_nil _ _
theorem head_filter {a b o : Int} {p : Int → Bool} (h1 : a ≤ o) (h2 : o < b) (hp : p o = true) (hn : ∀ x, a ≤ x → x < o → p x = false) : ((irange a b).filter p).head? = some o := by
  rw [irange_append h1 (Int.le_of_lt h2), irange_cons h2, List.filter_append, List.filter_cons_of_pos hp]
  have : (irange a o).filter p = [] := by
    rw [List.filter_eq_nil_iff]
    intro x hx
    have := mem_irange.mp hx
    rw [hn x this.1 this.2]; decide
  rw [this]; rfl
/-- find the first -/
theorem loop_find {α : Type} (p : α → Bool) : ∀ l : List α, afterL (loopL (fun (_ : Unit) x => if p x = true then LO.rt (some x) else LO.nx ()) () l) (fun _ => (none : Option α)) (fun r => r) = (l.filter p).head?
  | [] => rfl
  | x :: xs => by
    unfold loopL
    by_cases h : p x = true
    · rw [if_pos h, List.filter_cons_of_pos h]; rfl
    · rw [if_neg h, List.filter_cons_of_neg h]; exact loop_find p xs
theorem loopOk_mem {α S R : Type} {f : S → α → LO S R} {ok : S → α → Prop} : ∀ (l : List α) (s : S), (∀ s x, x ∈ l → ok s x) → loopOk f ok s l
  | [], _, _ => trivial
  | x :: xs, s, h => by
    refine ⟨h s x List.mem_cons_self, ?_⟩
    cases f s x with
    | nx s' => exact loopOk_mem xs s' fun s y hy => h s y (List.mem_cons_of_mem _ hy)
    | bk s' => trivial
    | rt r => trivial
theorem foldOk_mem {α S : Type} {f : S → α → S} {ok : S → α → Prop} : ∀ (l : List α) (s : S), (∀ s x, x ∈ l → ok s x) → foldOk f ok s l
  | [], _, _ => trivial
  | x :: xs, s, h => ⟨h s x List.mem_cons_self, foldOk_mem xs _ fun s y hy => h s y (List.mem_cons_of_mem _ hy)⟩
theorem foldOk_by {α S : Type} {f : S → α → S} {ok : S → α → Prop} (n : Nat) (I : Nat → S → Prop) (h : ∀ i s x, i < n → I i s → ok s x ∧ I (i + 1) (f s x)) : ∀ (l : List α) (i : Nat) (s : S), I i s → i + l.length ≤ n → foldOk f ok s l
  | [], _, _, _, _ => trivial
  | x :: xs, i, s, hi, hn => by
    rw [List.length_cons] at hn
    have q := h i s x (by omega) hi
    exact ⟨q.1, foldOk_by n I h xs (i + 1) _ q.2 (by omega)⟩
/-- a fold over a range -/
theorem fold_irange {S : Type} (f : S → Int → S) (I : Int → S → Prop) {a b : Int} (hab : a ≤ b) (s : S) (h0 : I a s) (h : ∀ x s, a ≤ x → x < b → I x s → I (x + 1) (f s x)) : I b ((irange a b).foldl f s) := by
  have : ∀ (n : Nat) (a' : Int) (s : S), a ≤ a' → a' ≤ b → (b - a').toNat = n → I a' s → I b ((irange a' b).foldl f s) := by
    intro n
    induction n with
    | zero =>
      intro a' s h1 h2 e hi
      have : a' = b := by omega
      subst this
      rw [irange_nil (Int.le_refl _)]; exact hi
    | succ n ih =>
      intro a' s h1 h2 e hi
      rw [irange_cons (show a' < b by omega)]
      exact ih (a' + 1) _ (by omega) (by omega) (by omega) (h a' s h1 (by omega) hi)
  exact this _ a s (Int.le_refl _) hab rfl h0
/-- a loop every turn of which goes on -/
theorem loop_all {α S R : Type} (f : S → α → LO S R) (ok : S → α → Prop) : ∀ (l : List α) (s : S), (∀ s x, x ∈ l → ok s x ∧ ∃ s', f s x = .nx s') → loopOk f ok s l ∧ ∃ s', loopL f s l = .inl s'
  | [], s, _ => ⟨trivial, s, rfl⟩
  | x :: xs, s, h => by
    obtain ⟨h1, s', e⟩ := h s x List.mem_cons_self
    obtain ⟨h2, s'', e2⟩ := loop_all f ok xs s' fun s y hy => h s y (List.mem_cons_of_mem _ hy)
    unfold loopOk loopL
    rw [e]
    exact ⟨⟨h1, h2⟩, s'', e2⟩
theorem ixOk_mod {α : Type} {l : List α} (h : 0 < (l.length : Int)) (x : Int) : IxOk l (x % (l.length : Int)) := by
  have h1 := Int.emod_nonneg x (show (l.length : Int) ≠ 0 by omega)
  have h2 := Int.emod_lt_of_pos x h
  unfold IxOk
  omega
theorem ix_mem {α : Type} {l : List α} {i : Int} (h : IxOk l i) (d : α) : ix l i d ∈ l := by
  have e := atI_ix h d
  unfold atI at e
  cases q : ixN l.length i with
  | none => rw [q] at e; cases e
  | some j => rw [q] at e; exact List.mem_of_getElem? e
theorem mulOk_small {i j : Int} (h1 : 0 ≤ i) (h2 : i < 2147483647) : MulOk i j := .inl (.inl ⟨by omega, by omega⟩)
theorem setI_len {α : Type} (l : List α) (i : Int) (x : α) : (setI l i x).length = l.length := by
  unfold setI
  split
  · exact List.length_set
  · rfl
/-! ### least, greatest of ints -/
theorem maxI_spec {xs : List Int} (h : xs ≠ []) (d : Int) : maxT (fun a b : Int => decide (a < b)) xs d ∈ xs ∧ ∀ y ∈ xs, y ≤ maxT (fun a b : Int => decide (a < b)) xs d := by
  refine ⟨maxT_mem _ d xs h, ?_⟩
  cases xs with
  | nil => exact absurd rfl h
  | cons x r =>
    show ∀ y ∈ x :: r, y ≤ r.foldl (fun a y => if decide (a < y) = true then y else a) x
    clear h
    induction r generalizing x with
    | nil => intro y hy; simp at hy; rw [hy]; exact Int.le_refl _
    | cons z r ih =>
      intro y hy
      rw [List.foldl_cons]
      have q := ih (if decide (x < z) = true then z else x)
      have q0 := q _ List.mem_cons_self
      rcases List.mem_cons.mp hy with rfl | hy
      · refine Int.le_trans ?_ q0; by_cases h : y < z <;> simp [h] <;> omega
      · rcases List.mem_cons.mp hy with rfl | hy
        · refine Int.le_trans ?_ q0; by_cases h : x < y <;> simp [h] <;> omega
        · exact q y (List.mem_cons_of_mem _ hy)
theorem minI_spec {xs : List Int} (h : xs ≠ []) (d : Int) : minT (fun a b : Int => decide (a < b)) xs d ∈ xs ∧ ∀ y ∈ xs, minT (fun a b : Int => decide (a < b)) xs d ≤ y := by
  refine ⟨minT_mem _ d xs h, ?_⟩
  cases xs with
  | nil => exact absurd rfl h
  | cons x r =>
    show ∀ y ∈ x :: r, r.foldl (fun a y => if decide (y < a) = true then y else a) x ≤ y
    clear h
    induction r generalizing x with
    | nil => intro y hy; simp at hy; rw [hy]; exact Int.le_refl _
    | cons z r ih =>
      intro y hy
      rw [List.foldl_cons]
      have q := ih (if decide (z < x) = true then z else x)
      have q0 := q _ List.mem_cons_self
      rcases List.mem_cons.mp hy with rfl | hy
      · refine Int.le_trans q0 ?_; by_cases h : z < y <;> simp [h] <;> omega
      · rcases List.mem_cons.mp hy with rfl | hy
        · refine Int.le_trans q0 ?_; by_cases h : y < x <;> simp [h] <;> omega
        · exact q y (List.mem_cons_of_mem _ hy)
/-! ### orders, sorted -/
structure Tot {α : Type} (lt : α → α → Bool) : Prop where
  irr : ∀ a, lt a a = false
  tr : ∀ a b c, lt b a = false → lt c b = false → lt c a = false
  tot : ∀ a b, lt a b = false ∨ lt b a = false
  anti : ∀ a b, lt a b = false → lt b a = false → a = b
theorem tot_int : Tot (fun a b : Int => decide (a < b)) := ⟨fun a => by simp, fun a b c h1 h2 => by simp at *; omega, fun a b => by simp; omega, fun a b h1 h2 => by simp at *; omega⟩
theorem tot_2 {α β : Type} [DecidableEq α] {l : α → α → Bool} {m : β → β → Bool} (hl : Tot l) (hm : Tot m) : Tot (lt2 l m) := by
  refine ⟨fun a => ?_, fun a b c h1 h2 => ?_, fun a b => ?_, fun a b h1 h2 => ?_⟩
  · unfold lt2; rw [if_pos rfl]; exact hm.irr _
  · unfold lt2 at *
    by_cases e1 : b.1 = a.1
    · rw [if_pos e1] at h1
      by_cases e2 : c.1 = b.1
      · rw [if_pos e2] at h2
        rw [if_pos (e2.trans e1)]; exact hm.tr _ _ _ h1 h2
      · rw [if_neg e2] at h2
        rw [if_neg (fun z => e2 (z.trans e1.symm)), ← e1]; exact h2
    · rw [if_neg e1] at h1
      by_cases e2 : c.1 = b.1
      · rw [if_pos e2] at h2
        rw [if_neg (fun z => e1 (e2.symm.trans z)), e2]; exact h1
      · rw [if_neg e2] at h2
        have h3 := hl.tr _ _ _ h1 h2
        by_cases e3 : c.1 = a.1
        · exfalso
          rw [e3] at h2
          exact e1 (hl.anti _ _ h1 h2)
        · rw [if_neg e3]; exact h3
  · unfold lt2
    by_cases e : a.1 = b.1
    · rw [if_pos e, if_pos e.symm]; exact hm.tot _ _
    · rw [if_neg e, if_neg (fun z => e z.symm)]; exact hl.tot _ _
  · unfold lt2 at *
    by_cases e : a.1 = b.1
    · rw [if_pos e] at h1
      rw [if_pos e.symm] at h2
      exact Prod.ext e (hm.anti _ _ h1 h2)
    · rw [if_neg e] at h1
      rw [if_neg (fun z => e z.symm)] at h2
      exact absurd (hl.anti _ _ h1 h2) e
theorem srt_perm {α : Type} (lt : α → α → Bool) (xs : List α) : (srt lt xs).Perm xs := List.mergeSort_perm _ _
theorem srt_sorted {α : Type} {lt : α → α → Bool} (T : Tot lt) (xs : List α) : (srt lt xs).Pairwise fun a b => lt b a = false := by
  have := List.pairwise_mergeSort (le := fun a b => !lt b a) (fun a b c h1 h2 => by
    simp at *; exact T.tr _ _ _ h1 h2) (fun a b => by
    rcases T.tot a b with h | h <;> simp [h]) xs
  exact this.imp fun {a b} h => by simpa using h
theorem srt_head {α : Type} {lt : α → α → Bool} (T : Tot lt) {xs : List α} (h : xs ≠ []) : ∃ m r, srt lt xs = m :: r ∧ m ∈ xs ∧ ∀ y ∈ xs, lt y m = false := by
  have p := srt_perm lt xs
  have s := srt_sorted T xs
  cases e : srt lt xs with
  | nil => rw [e] at p; exact absurd (List.nil_perm.mp p) h
  | cons m r =>
    rw [e] at p s
    refine ⟨m, r, rfl, p.mem_iff.mp List.mem_cons_self, fun y hy => ?_⟩
    rcases List.mem_cons.mp (p.mem_iff.mpr hy) with rfl | hy
    · exact T.irr _
    · exact (List.pairwise_cons.mp s).1 y hy
/-- there is one such list -/
theorem srt_uniq {α : Type} {lt : α → α → Bool} (T : Tot lt) {xs ys : List α} (hp : ys.Perm xs) (hs : ys.Pairwise fun a b => lt b a = false) : srt lt xs = ys :=
  ((srt_perm lt xs).trans hp.symm).eq_of_pairwise (fun a b _ _ h1 h2 => T.anti _ _ h2 h1) (srt_sorted T xs) hs
/-! ### divisors -/
theorem gcd_step (a b : Nat) : (Int.gcd (b : Int) ((a : Int) % (b : Int))) = Int.gcd (a : Int) (b : Int) := by
  have e : ((a : Int) % (b : Int)) = ((a % b : Nat) : Int) := by omega
  rw [e]
  show Nat.gcd b (a % b) = Nat.gcd a b
  rw [Nat.gcd_comm b, ← Nat.gcd_rec, Nat.gcd_comm]
theorem gcd_loop : ∀ (n : Nat) (a b : Nat), b < n → (whileS (fun s : Int × Int => decide ((0 : Int) < s.2)) (fun s => (s.2, s.1 % s.2)) n ((a : Int), (b : Int))).1 = (Int.gcd a b : Int)
  | 0, a, b, h => absurd h (Nat.not_lt_zero _)
  | n + 1, a, b, h => by
    unfold whileS
    by_cases hb : 0 < b
    · have hb' : (0 : Int) < (b : Int) := by omega
      rw [if_pos (by simpa using hb)]
      have e : ((a : Int) % (b : Int)) = ((a % b : Nat) : Int) := by omega
      show (whileS _ _ n ((b : Int), ((a : Int) % (b : Int)))).1 = _
      rw [e, gcd_loop n b (a % b) (by have := Nat.mod_lt a hb; omega), ← e, gcd_step]
    · have e : b = 0 := by omega
      subst e
      rw [if_neg (by simp)]
      show (a : Int) = _
      simp
theorem gcd_loopOk (n : Nat) (a b : Int) (hb : 0 ≤ b) (h : b.natAbs < n) : whileSOk (fun s : Int × Int => decide ((0 : Int) < s.2)) (fun s => (s.2, s.1 % s.2)) (fun _ => True) (fun s => 0 < s.2) n (a, b) :=
  whileSOk_by (fun s => 0 ≤ s.2) (fun s => s.2.natAbs) (fun s hs => ⟨trivial, fun hc => by
    have h0 : (0 : Int) < s.2 := by simpa using hc
    have h1 := Int.emod_nonneg s.1 (show s.2 ≠ 0 by omega)
    have h2 := Int.emod_lt_of_pos s.1 h0
    exact ⟨h0, h1, by show (s.1 % s.2).natAbs < s.2.natAbs; omega⟩⟩) n (a, b) hb h
theorem log2_lt {n k : Nat} (h : n < 2 ^ k) (hk : 0 < k) : n.log2 < k := by
  by_cases h0 : n = 0
  · subst h0; simpa using hk
  · exact (Nat.log2_lt h0).mpr h
theorem mod_ge (x : Int) {m : Int} (h : 0 < m) : 0 ≤ x % m ∧ x % m < m := ⟨Int.emod_nonneg _ (by omega), Int.emod_lt_of_pos _ h⟩
theorem ix2 {a b i : Int} (h0 : 0 ≤ i) (h1 : i < 2) (P : Int → Prop) (ha : P a) (hb : P b) : IxOk [a, b] i ∧ P (ix [a, b] i 0) := by
  have : i = 0 ∨ i = 1 := by omega
  rcases this with rfl | rfl
  · exact ⟨by unfold IxOk; simp, ha⟩
  · exact ⟨by unfold IxOk; simp, hb⟩
theorem ix3 {a b c i : Int} (h0 : 0 ≤ i) (h1 : i < 3) (P : Int → Prop) (ha : P a) (hb : P b) (hc : P c) : IxOk [a, b, c] i ∧ P (ix [a, b, c] i 0) := by
  have : i = 0 ∨ i = 1 ∨ i = 2 := by omega
  rcases this with rfl | rfl | rfl
  · exact ⟨by unfold IxOk; simp, ha⟩
  · exact ⟨by unfold IxOk; simp, hb⟩
  · exact ⟨by unfold IxOk; simp, hc⟩
theorem lcG_true {α β S : Type} {g : S → α → β × S} : ∀ (l : List α) (s : S), (lcGL (fun s (_ : α) => (true, s)) g s l).1.length = l.length
  | [], _ => rfl
  | x :: xs, s => by
    unfold lcGL
    rw [if_pos rfl, List.length_cons, List.length_cons, lcG_true xs]
theorem lcG_trueOk {α β S : Type} {g : S → α → β × S} {okp okg : S → α → Prop} (h1 : ∀ s x, okp s x) (h2 : ∀ s x, okg s x) : ∀ (l : List α) (s : S), lcGOk (fun s (_ : α) => (true, s)) g okp okg s l
  | [], _ => trivial
  | x :: xs, s => by
    unfold lcGOk
    rw [if_pos rfl]
    exact ⟨h1 _ _, h2 _ _, lcG_trueOk h1 h2 xs _⟩
theorem mgInt {K : PySem.W.Frag} {h : Heap} {mg : Str → Option Value} {x : Str} {i : Int} (X : K.In h) (G : h.Ns mainGlobals mg) (e : ∃ j t, PySem.W.nsIn K mainGlobals x = some (some (.int j t)) ∧ j = i) : ∃ t, mg x = some (.int i t) := by
  obtain ⟨j, t, e, rfl⟩ := e
  exact ⟨t, PySem.W.mg_of X G e⟩
end VL

namespace K14
open PySem PySem.Spec PyProof.Rows L2 VL
def topS (i : Nat) : Stmt := PySem.Challenge.pw_boatsout_k14_water_by_hours.main.body.getD i (.Pass ⟨0, 0, 0, 0⟩)
abbrev s_law_same : Stmt := topS 14
theorem sc_law_same : FnScope ["actual", "due", "k"] ["actual", "due"] (defScope s_law_same) := ⟨rfl, rfl, rfl, by decide +kernel, rfl, by decide +kernel, by decide +kernel⟩
section
variable {P : Program} {w : World} {K : PySem.W.Frag} {mg : Str → Option Value} {base : Heap}
set_option maxHeartbeats 0 in
theorem ok_law_same1 (D : DefAt K mg "_law_same" s_law_same ["actual", "due"]) (m_isinstance : mg "isinstance" = none) (m_bool : mg "bool" = none) (m_int : mg "int" = none) (m_str : mg "str" = none) (m_tuple : mg "tuple" = none) (m_len : mg "len" = none) (m_range : mg "range" = none)
    (d : Nat) (C : ∀ e, d = e + 1 → CalOk P w K mg base "_law_same" ["actual", "due"] d (R_same e)) : CalOk P w K mg base "_law_same" ["actual", "due"] (d + 1) (R_same d) := by
  refine D.ok sc_law_same (by decide) (fun args r outs h => ?_) (fun f cdv A outer s H E hr args r outs h => ?_)
  · obtain ⟨a, b, p, _, rfl, rfl, rfl⟩ := h
    exact len_of rfl rfl
  · obtain ⟨a, b, p, hs, rfl, rfl, rfl⟩ := h
    have nd_ := sc_law_same.nd
    have hu64_ := hu64 hr
    -- the slot of k at the end
    have fin : ∀ {sl : Sl}, EvC (cxOf CX0 P w K mg base ["actual", "due", "k"] "_law_same" (defScope s_law_same) f cdv A outer s H E).nox (muI [.im a, .im b]) [defBody s_law_same] [.im a, .im b, .no] (.rt (.im (.bl p)) [.im a, .im b, sl]) →
        ∃ out, EvSs (cxOf CX0 P w K mg base ["actual", "due", "k"] "_law_same" (defScope s_law_same) f cdv A outer s H E).nox (muI [.im a, .im b]) (defBody s_law_same) (env0 3 [.im a, .im b]) out ∧ OutOk [.im a, .im b] (.im (.bl p)) [.im a, .im b] out :=
      fun h => ⟨_, EvC.ss h, rfl, OE.ok (.im (.im .nil))⟩
    cases hs with
    | int _ m n =>
      exact fin (sl := .no) (ec_if (p := false) (et_val (ev_isi (T := "bool") (p := false) m_isinstance m_bool (by decide +kernel) rfl (ev_v 1 rfl (pv 1)))) (fun h => nomatch h) (fun _ => ec_nil
        (ec_if (p := true) (et_val (ev_isi (T := "int") (p := true) m_isinstance m_int (by decide +kernel) rfl (ev_v 1 rfl (pv 1)))) (fun _ => ec_last (es_ret
          (ev_and (ev_isi (T := "int") (p := true) m_isinstance m_int (by decide +kernel) rfl (ev_v 0 rfl (pv 0))) (fun _ => ev_and (ev_not (ev_isi (T := "bool") (p := false) m_isinstance m_bool (by decide +kernel) rfl (ev_v 0 rfl (pv 0))))
            (fun _ => ev_bo1 (ev_eqT lw_int (by decide) hu64_ (ev_v 0 rfl (pv 0)) (ev_v 1 rfl (pv 1)) (.val _) (.val _)))))) rfl) (fun h => nomatch h))))
    | bl _ m n =>
      exact fin (ec_if (p := true) (et_val (ev_isi (T := "bool") (p := true) m_isinstance m_bool (by decide +kernel) rfl (ev_v 1 rfl (pv 1)))) (fun _ => ec_last (es_ret
          (ev_and (ev_isi (T := "bool") (p := true) m_isinstance m_bool (by decide +kernel) rfl (ev_v 0 rfl (pv 0)))
            (fun _ => ev_bo1 (ev_eqT lw_bl (by decide) hu64_ (ev_v 0 rfl (pv 0)) (ev_v 1 rfl (pv 1)) (.val _) (.val _))))) rfl) (fun h => nomatch h))
    | non _ =>
      exact fin (sl := .no) (ec_if (p := false) (et_val (ev_isi (T := "bool") (p := false) m_isinstance m_bool (by decide +kernel) rfl (ev_v 1 rfl (pv 1)))) (fun h => nomatch h) (fun _ => ec_nil (ec_if (p := false) (et_val (ev_isi (T := "int") (p := false) m_isinstance m_int (by decide +kernel) rfl (ev_v 1 rfl (pv 1)))) (fun h => nomatch h) (fun _ => ec_nil (ec_if (p := false) (et_val (ev_isi (T := "str") (p := false) m_isinstance m_str (by decide +kernel) rfl (ev_v 1 rfl (pv 1)))) (fun h => nomatch h) (fun _ => ec_nil (ec_if (p := true) (EvT.as (et_isN (ev_v 1 rfl (pv 1))) rfl) (fun _ => ec_last (es_ret (Ev.as (ev_isN (ev_v 0 rfl (pv 0))) rfl)) rfl) (fun h => nomatch h))))))))
    | inon _ m =>
      exact fin (sl := .no) (ec_if (p := false) (et_val (ev_isi (T := "bool") (p := false) m_isinstance m_bool (by decide +kernel) rfl (ev_v 1 rfl (pv 1)))) (fun h => nomatch h) (fun _ => ec_nil (ec_if (p := false) (et_val (ev_isi (T := "int") (p := false) m_isinstance m_int (by decide +kernel) rfl (ev_v 1 rfl (pv 1)))) (fun h => nomatch h) (fun _ => ec_nil (ec_if (p := false) (et_val (ev_isi (T := "str") (p := false) m_isinstance m_str (by decide +kernel) rfl (ev_v 1 rfl (pv 1)))) (fun h => nomatch h) (fun _ => ec_nil (ec_if (p := true) (EvT.as (et_isN (ev_v 1 rfl (pv 1))) rfl) (fun _ => ec_last (es_ret (Ev.as (ev_isN (ev_v 0 rfl (pv 0))) rfl)) rfl) (fun h => nomatch h))))))))
    | bnon _ m =>
      exact fin (sl := .no) (ec_if (p := false) (et_val (ev_isi (T := "bool") (p := false) m_isinstance m_bool (by decide +kernel) rfl (ev_v 1 rfl (pv 1)))) (fun h => nomatch h) (fun _ => ec_nil (ec_if (p := false) (et_val (ev_isi (T := "int") (p := false) m_isinstance m_int (by decide +kernel) rfl (ev_v 1 rfl (pv 1)))) (fun h => nomatch h) (fun _ => ec_nil (ec_if (p := false) (et_val (ev_isi (T := "str") (p := false) m_isinstance m_str (by decide +kernel) rfl (ev_v 1 rfl (pv 1)))) (fun h => nomatch h) (fun _ => ec_nil (ec_if (p := true) (EvT.as (et_isN (ev_v 1 rfl (pv 1))) rfl) (fun _ => ec_last (es_ret (Ev.as (ev_isN (ev_v 0 rfl (pv 0))) rfl)) rfl) (fun h => nomatch h))))))))
    | tnon _ xs =>
      exact fin (sl := .no) (ec_if (p := false) (et_val (ev_isi (T := "bool") (p := false) m_isinstance m_bool (by decide +kernel) rfl (ev_v 1 rfl (pv 1)))) (fun h => nomatch h) (fun _ => ec_nil (ec_if (p := false) (et_val (ev_isi (T := "int") (p := false) m_isinstance m_int (by decide +kernel) rfl (ev_v 1 rfl (pv 1)))) (fun h => nomatch h) (fun _ => ec_nil (ec_if (p := false) (et_val (ev_isi (T := "str") (p := false) m_isinstance m_str (by decide +kernel) rfl (ev_v 1 rfl (pv 1)))) (fun h => nomatch h) (fun _ => ec_nil (ec_if (p := true) (EvT.as (et_isN (ev_v 1 rfl (pv 1))) rfl) (fun _ => ec_last (es_ret (Ev.as (ev_isN (ev_v 0 rfl (pv 0))) rfl)) rfl) (fun h => nomatch h))))))))
    | noni _ m =>
      exact fin (sl := .no) (ec_if (p := false) (et_val (ev_isi (T := "bool") (p := false) m_isinstance m_bool (by decide +kernel) rfl (ev_v 1 rfl (pv 1)))) (fun h => nomatch h) (fun _ => ec_nil
        (ec_if (p := true) (et_val (ev_isi (T := "int") (p := true) m_isinstance m_int (by decide +kernel) rfl (ev_v 1 rfl (pv 1)))) (fun _ => ec_last (es_ret
          (ev_and (p := false) (q := false) (ev_isi (T := "int") (p := false) m_isinstance m_int (by decide +kernel) rfl (ev_v 0 rfl (pv 0))) (fun h => nomatch h))) rfl) (fun h => nomatch h))))
    | nonb _ m =>
      exact fin (ec_if (p := true) (et_val (ev_isi (T := "bool") (p := true) m_isinstance m_bool (by decide +kernel) rfl (ev_v 1 rfl (pv 1)))) (fun _ => ec_last (es_ret (ev_and (p := false) (q := false) (ev_isi (T := "bool") (p := false) m_isinstance m_bool (by decide +kernel) rfl (ev_v 0 rfl (pv 0))) (fun h => nomatch h))) rfl) (fun h => nomatch h))
    | nont _ xs =>
      exact fin (sl := .no) (ec_if (p := false) (et_val (ev_isi (T := "bool") (p := false) m_isinstance m_bool (by decide +kernel) rfl (ev_v 1 rfl (pv 1)))) (fun h => nomatch h) (fun _ => ec_nil (ec_if (p := false) (et_val (ev_isi (T := "int") (p := false) m_isinstance m_int (by decide +kernel) rfl (ev_v 1 rfl (pv 1)))) (fun h => nomatch h) (fun _ => ec_nil (ec_if (p := false) (et_val (ev_isi (T := "str") (p := false) m_isinstance m_str (by decide +kernel) rfl (ev_v 1 rfl (pv 1)))) (fun h => nomatch h) (fun _ => ec_nil (ec_if (p := false) (EvT.as (et_isN (ev_v 1 rfl (pv 1))) rfl) (fun h => nomatch h) (fun _ => ec_nil (ec_if (p := true) (ew_or (p := true) (q := true) (et_not (et_val (ev_isi (T := "tuple") (p := false) m_isinstance m_tuple (by decide +kernel) rfl (ev_v 0 rfl (pv 0))))) (fun h => nomatch h)).t (fun _ => ec_last (es_ret ev_bl) rfl) (fun h => nomatch h))))))))))
    | tupN _ xs ys h =>
      have hne : decide ((xs.length : Int) = (ys.length : Int)) = false := decide_eq_false (by omega)
      exact fin (sl := .no) (ec_if (p := false) (et_val (ev_isi (T := "bool") (p := false) m_isinstance m_bool (by decide +kernel) rfl (ev_v 1 rfl (pv 1)))) (fun h => nomatch h) (fun _ => ec_nil (ec_if (p := false) (et_val (ev_isi (T := "int") (p := false) m_isinstance m_int (by decide +kernel) rfl (ev_v 1 rfl (pv 1)))) (fun h => nomatch h) (fun _ => ec_nil (ec_if (p := false) (et_val (ev_isi (T := "str") (p := false) m_isinstance m_str (by decide +kernel) rfl (ev_v 1 rfl (pv 1)))) (fun h => nomatch h) (fun _ => ec_nil (ec_if (p := false) (EvT.as (et_isN (ev_v 1 rfl (pv 1))) rfl) (fun h => nomatch h) (fun _ => ec_nil (ec_if (p := true) ((ew_or (et_not (et_val (ev_isi (T := "tuple") (p := true) m_isinstance m_tuple (by decide +kernel) rfl (ev_v 0 rfl (pv 0))))) (fun _ => ew_or1 (et_neT lw_int (by decide) hu64_ (ev_len m_len (ev_v 0 rfl (pv 0)) (.val _) (.tup _)) (ev_len m_len (ev_v 1 rfl (pv 1)) (.val _) (.tup _)) (.val _) (.val _)))).t.as (by rw [hne]; rfl)) (fun _ => ec_last (es_ret ev_bl) rfl) (fun h => nomatch h))))))))))
    | tup d xs ys ps h hp hz =>
      have hne : decide ((xs.length : Int) = (ys.length : Int)) = true := decide_eq_true (by omega)
      have Cd := C d rfl
      have key := same_loop ps
      rw [hp] at key
      exact fin (sl := .no) (ec_if (p := false) (et_val (ev_isi (T := "bool") (p := false) m_isinstance m_bool (by decide +kernel) rfl (ev_v 1 rfl (pv 1)))) (fun h => nomatch h) (fun _ => ec_nil (ec_if (p := false) (et_val (ev_isi (T := "int") (p := false) m_isinstance m_int (by decide +kernel) rfl (ev_v 1 rfl (pv 1)))) (fun h => nomatch h) (fun _ => ec_nil (ec_if (p := false) (et_val (ev_isi (T := "str") (p := false) m_isinstance m_str (by decide +kernel) rfl (ev_v 1 rfl (pv 1)))) (fun h => nomatch h) (fun _ => ec_nil (ec_if (p := false) (EvT.as (et_isN (ev_v 1 rfl (pv 1))) rfl) (fun h => nomatch h) (fun _ => ec_nil (ec_if (p := false) ((ew_or (et_not (et_val (ev_isi (T := "tuple") (p := true) m_isinstance m_tuple (by decide +kernel) rfl (ev_v 0 rfl (pv 0))))) (fun _ => ew_or1 (et_neT lw_int (by decide) hu64_ (ev_len m_len (ev_v 0 rfl (pv 0)) (.val _) (.tup _)) (ev_len m_len (ev_v 1 rfl (pv 1)) (.val _) (.tup _)) (.val _) (.val _)))).t.as (by rw [hne]; rfl)) (fun h => nomatch h) (fun _ => ec_nil
        (EvC.lenT 1 rfl fun hl =>
        (ec_loop (fun p => .rt (.im (.bl p)) [.im (.tup xs), .im (.tup ys), .no]) (envS := fun _ => [.im (.tup xs), .im (.tup ys), .no]) (outR := fun _ => .rt (.im (.bl false)) [.im (.tup xs), .im (.tup ys), .no])
          (es_forL1 (fun _ => isRt) (same_turn ps) (fun _ _ => True) ys.length () rfl PassesOwn.never m_range (ev_len m_len (ev_v 1 rfl (pv 1)) (.val _) (.tup _)) (by unfold sizeLine at hl; omega) (loopOk_true (fun _ _ => trivial) _ _)
            (fun s x hx _ => by
              obtain ⟨i, hi, rfl⟩ := mem_irange0 hx
              obtain ⟨u, hu⟩ : ∃ u, xs[i]? = some u := ⟨_, List.getElem?_eq_getElem (by omega)⟩
              obtain ⟨v, hv⟩ : ∃ v, ys[i]? = some v := ⟨_, List.getElem?_eq_getElem (by omega)⟩
              obtain ⟨q, hq⟩ : ∃ q, ps[i]? = some q := ⟨_, List.getElem?_eq_getElem (by omega)⟩
              refine ⟨_, eg_name 2 (pg_name nd_ rfl (by first | exact .inl rfl | exact .inr rfl)) (Nat.le_of_ble_eq_true rfl) (nm rfl), ?_⟩
              refine EvC.ss ?_
              cases q with
              | true =>
                have e : same_turn ps s (i : Int) = .nx () := by unfold same_turn; rw [Int.toNat_natCast, List.getD_eq_getElem?_getD, hq]; rfl
                rw [e]
                exact ec_if (p := false) (EvT.as (et_not (et_val (ev_call (Cd.pe hr (Nat.le_refl _) rfl) (ea_cons (ev_ix (atI_nat hu) (ev_v 0 rfl (pv 0)) (ev_v 2 rfl (pv 2)) (.val _) (.tup _)) (ea_cons (ev_ix (atI_nat hv) (ev_v 1 rfl (pv 1)) (ev_v 2 rfl (pv 2)) (.val _) (.tup _)) ea_nil)) (.im (.im .nil)) ⟨u, v, true, hz i u v _ hu hv hq, rfl, rfl, rfl⟩))) rfl) (fun h => nomatch h) (fun _ => ec_nil (ec_nil (ec_end.wkN (.s (.s (.n .nil))))))
              | false =>
                have e : same_turn ps s (i : Int) = .rt () := by unfold same_turn; rw [Int.toNat_natCast, List.getD_eq_getElem?_getD, hq]; rfl
                rw [e]
                exact ec_if (p := true) (EvT.as (et_not (et_val (ev_call (Cd.pe hr (Nat.le_refl _) rfl) (ea_cons (ev_ix (atI_nat hu) (ev_v 0 rfl (pv 0)) (ev_v 2 rfl (pv 2)) (.val _) (.tup _)) (ea_cons (ev_ix (atI_nat hv) (ev_v 1 rfl (pv 1)) (ev_v 2 rfl (pv 2)) (.val _) (.tup _)) ea_nil)) (.im (.im .nil)) ⟨u, v, false, hz i u v _ hu hv hq, rfl, rfl, rfl⟩))) rfl) (fun _ => (ec_last (es_ret ev_bl) rfl).wkR (.s (.s (.n .nil)))) (fun h => nomatch h)))
          (fun _ _ => ec_last (es_ret ev_bl) rfl) (fun x => ⟨rfl, isRt⟩) (by rw [key])))))))))))))
theorem ok_law_same (D : DefAt K mg "_law_same" s_law_same ["actual", "due"]) (m_isinstance : mg "isinstance" = none) (m_bool : mg "bool" = none) (m_int : mg "int" = none) (m_str : mg "str" = none) (m_tuple : mg "tuple" = none) (m_len : mg "len" = none) (m_range : mg "range" = none) :
    ∀ d, CalOk P w K mg base "_law_same" ["actual", "due"] (d + 1) (R_same d)
  | 0 => ok_law_same1 D m_isinstance m_bool m_int m_str m_tuple m_len m_range 0 fun e h => nomatch h
  | d + 1 => ok_law_same1 D m_isinstance m_bool m_int m_str m_tuple m_len m_range (d + 1) fun e h => by
    cases h
    exact ok_law_same D m_isinstance m_bool m_int m_str m_tuple m_len m_range d
end

section
variable {P : Program} {w : World} {K : PySem.W.Frag} {mg : Str → Option Value} {base : Heap}
/-! divisor_of -/
abbrev s_divisor_of : Stmt := topS 1
theorem sc_divisor_of : FnScope ["one", "other"] ["one", "other"] (defScope s_divisor_of) := ⟨rfl, rfl, rfl, by decide +kernel, rfl, by decide +kernel, by decide +kernel⟩
def divisor_of_w2  (s : Int × Int) : Int × Int := (s.2, (s.1 % s.2))
def divisor_of_w2_ok  (s : Int × Int) : Prop := 0 < s.2
def divisor_of_w2_c  (s : Int × Int) : Bool := (decide ((0 : Int) < s.2))
def divisor_of_w2_cok  (s : Int × Int) : Prop := True
def divisor_of (one : Int) (other : Int) : (Int) := (whileS divisor_of_w2_c divisor_of_w2 (((((other).natAbs : Int))).natAbs + 1) (((one).natAbs : Int), ((other).natAbs : Int))).1
def divisor_of_ok (one : Int) (other : Int) : Prop := whileSOk divisor_of_w2_c divisor_of_w2 divisor_of_w2_cok divisor_of_w2_ok (((((other).natAbs : Int))).natAbs + 1) (((one).natAbs : Int), ((other).natAbs : Int))
def divisor_of_o (t : (Int)) : Out := .rt (.im (Val.int t)) [.no, .no]
theorem divisor_of_oo (t : (Int)) (one : Int) (other : Int) : OutOk [.im (Val.int one), .im (Val.int other)] (.im (Val.int t)) [.im (Val.int one), .im (Val.int other)] (divisor_of_o t) := by
  exact ⟨rfl, OE.ok (.im (.im .nil))⟩
def R_divisor_of : Rel := fun args_ r_ outs_ => ∃ (one : Int) (other : Int), divisor_of_ok one other ∧ args_ = [.im (Val.int one), .im (Val.int other)] ∧ r_ = .im (Val.int (divisor_of one other)) ∧ outs_ = [.im (Val.int one), .im (Val.int other)]
theorem R_divisor_of_of (one : Int) (other : Int) {v_ : (Int)} (h : divisor_of_ok one other) (e : divisor_of one other = v_) : R_divisor_of [.im (Val.int one), .im (Val.int other)] (.im (Val.int v_)) [.im (Val.int one), .im (Val.int other)] := by subst e; exact ⟨one, other, h, rfl, rfl, rfl⟩
set_option maxHeartbeats 2000000 in
theorem ok_divisor_of (D : DefAt K mg "divisor_of" s_divisor_of ["one", "other"]) (m_abs : mg "abs" = none) : CalOk P w K mg base "divisor_of" ["one", "other"] 1 R_divisor_of := by
  refine D.ok sc_divisor_of (by decide) (fun args r outs h => ?_) (fun f_ cdv_ A_ outer_ sh_ H_ E_ hr_ args r outs h => ?_)
  · obtain ⟨one, other, h, rfl, rfl, rfl⟩ := h; exact len_of rfl rfl
  · obtain ⟨one, other, h, rfl, rfl, rfl⟩ := h
    have nd_ := sc_divisor_of.nd
    have hu64_ := hu64 hr_; have hu65_ := hu65 hr_
    have divisor_of_w2_b : ∀  (s : Int × Int), divisor_of_w2_ok  s → EvSs (cxOf CX0 P w K mg base ["one", "other"] "divisor_of" (defScope s_divisor_of) f_ cdv_ A_ outer_ sh_ H_ E_).nox [] (loopBody (stAt (defBody s_divisor_of) 1)) [.im (Val.int s.1), .im (Val.int s.2)] (.nx ((fun so1 : Int × Int => (match so1 with | (so1_0, so1_1) => [.im (Val.int so1_0), .im (Val.int so1_1)] : List Sl)) (divisor_of_w2 s))) := fun  s h => EvSs.wkN (ess_cons (EvS.to (env2 := [.im (Val.int s.2), .im (Val.int (s.1 % s.2))]) (es_par (ps_par (i := 0) (j := 1) rfl nd_ rfl rfl (by decide) rfl rfl (pa_wp _) rfl) (ea_cons (ev_v 1 rfl (pv 1)) (ea_cons (ev_mod h (ev_v 0 rfl (pv 0)) (ev_v 1 rfl (pv 1))) ea_nil)) (Nat.le_of_ble_eq_true rfl) (Nat.le_of_ble_eq_true rfl) (nm rfl) (nm rfl)) rfl) ess_nil) (.s (.s .nil))
    have divisor_of_w2_t : ∀  (s : Int × Int), divisor_of_w2_cok  s → EvT (cxOf CX0 P w K mg base ["one", "other"] "divisor_of" (defScope s_divisor_of) f_ cdv_ A_ outer_ sh_ H_ E_).nox (whTest (stAt (defBody s_divisor_of) 1)) [.im (Val.int s.1), .im (Val.int s.2)] (divisor_of_w2_c  s) [.im (Val.int s.1), .im (Val.int s.2)] := fun  s h => (et_gt (ev_v 1 rfl (pv 1)) ev_int)
    have main_ : EvC (cxOf CX0 P w K mg base ["one", "other"] "divisor_of" (defScope s_divisor_of) f_ cdv_ A_ outer_ sh_ H_ E_).nox [] [defBody s_divisor_of] [.im (Val.int one), .im (Val.int other)] (divisor_of_o (divisor_of one other)) := (show EvC _ _ _ _ (divisor_of_o ((whileS divisor_of_w2_c divisor_of_w2 (((((other).natAbs : Int))).natAbs + 1) (((one).natAbs : Int), ((other).natAbs : Int))).1)) from (ec_cons (EvS.to (env2 := [.im (Val.int ((one).natAbs : Int)), .im (Val.int ((other).natAbs : Int))]) (es_par (ps_par (i := 0) (j := 1) rfl nd_ rfl rfl (by decide) rfl rfl (pa_wp _) rfl) (ea_cons (ev_abs m_abs (ev_v 0 rfl (pv 0))) (ea_cons (ev_abs m_abs (ev_v 1 rfl (pv 1))) ea_nil)) (Nat.le_of_ble_eq_true rfl) (Nat.le_of_ble_eq_true rfl) (nm rfl) (nm rfl)) rfl) (ec_cons (EvS.to (env2 := [.im (Val.int (whileS divisor_of_w2_c divisor_of_w2 (((((other).natAbs : Int))).natAbs + 1) (((one).natAbs : Int), ((other).natAbs : Int))).1), .im (Val.int (whileS divisor_of_w2_c divisor_of_w2 (((((other).natAbs : Int))).natAbs + 1) (((one).natAbs : Int), ((other).natAbs : Int))).2)]) (EvS.wk0 (.s (.s .nil)) (es_whileS (fun so1 : Int × Int => (match so1 with | (so1_0, so1_1) => [.im (Val.int so1_0), .im (Val.int so1_1)] : List Sl)) divisor_of_w2_c divisor_of_w2 divisor_of_w2_cok divisor_of_w2_ok (((((other).natAbs : Int))).natAbs + 1) (((one).natAbs : Int), ((other).natAbs : Int)) PassesOwn.never h (fun st_ ho_ => divisor_of_w2_t  st_ ho_) (fun st_ ho_ hc_ => divisor_of_w2_b  st_ ho_))) ((show ∀ so1 : Int × Int, (fun so1 : Int × Int => (match so1 with | (so1_0, so1_1) => [.im (Val.int so1_0), .im (Val.int so1_1)] : List Sl)) so1 = ([.im (Val.int so1.1), .im (Val.int so1.2)] : List Sl) from fun (so1_0, so1_1) => rfl) _)) (EvC.wkR (ec_last (es_ret (ev_v 0 rfl (pv 0))) rfl) (.n (.n .nil))))))
    exact ⟨_, EvC.ss main_, divisor_of_oo (divisor_of one other) one other⟩
/-! water_at -/
abbrev s_water_at : Stmt := topS 4
theorem sc_water_at : FnScope ["row", "hour"] ["row", "hour"] (defScope s_water_at) := ⟨rfl, rfl, rfl, by decide +kernel, rfl, by decide +kernel, by decide +kernel⟩
def water_at (row : (List Int)) (hour : Int) : (Int) := (ix row (hour % ((row).length : Int)) (0 : Int))
def water_at_ok (row : (List Int)) (hour : Int) : Prop := (0 < ((row).length : Int) ∧ IxOk row (hour % ((row).length : Int)))
def water_at_o (t : (Int)) : Out := .rt (.im (Val.int t)) [.no, .no]
theorem water_at_oo (t : (Int)) (row : (List Int)) (hour : Int) : OutOk [.im ((encT Val.int) row), .im (Val.int hour)] (.im (Val.int t)) [.im ((encT Val.int) row), .im (Val.int hour)] (water_at_o t) := by
  exact ⟨rfl, OE.ok (.im (.im .nil))⟩
def R_water_at : Rel := fun args_ r_ outs_ => ∃ (row : (List Int)) (hour : Int), water_at_ok row hour ∧ args_ = [.im ((encT Val.int) row), .im (Val.int hour)] ∧ r_ = .im (Val.int (water_at row hour)) ∧ outs_ = [.im ((encT Val.int) row), .im (Val.int hour)]
theorem R_water_at_of (row : (List Int)) (hour : Int) {v_ : (Int)} (h : water_at_ok row hour) (e : water_at row hour = v_) : R_water_at [.im ((encT Val.int) row), .im (Val.int hour)] (.im (Val.int v_)) [.im ((encT Val.int) row), .im (Val.int hour)] := by subst e; exact ⟨row, hour, h, rfl, rfl, rfl⟩
set_option maxHeartbeats 2000000 in
theorem ok_water_at (D : DefAt K mg "water_at" s_water_at ["row", "hour"]) (m_len : mg "len" = none) : CalOk P w K mg base "water_at" ["row", "hour"] 1 R_water_at := by
  refine D.ok sc_water_at (by decide) (fun args r outs h => ?_) (fun f_ cdv_ A_ outer_ sh_ H_ E_ hr_ args r outs h => ?_)
  · obtain ⟨row, hour, h, rfl, rfl, rfl⟩ := h; exact len_of rfl rfl
  · obtain ⟨row, hour, h, rfl, rfl, rfl⟩ := h
    have nd_ := sc_water_at.nd
    have hu64_ := hu64 hr_; have hu65_ := hu65 hr_
    have main_ : EvC (cxOf CX0 P w K mg base ["row", "hour"] "water_at" (defScope s_water_at) f_ cdv_ A_ outer_ sh_ H_ E_).nox [] [defBody s_water_at] [.im ((encT Val.int) row), .im (Val.int hour)] (water_at_o (water_at row hour)) := (show EvC _ _ _ _ (water_at_o ((ix row (hour % ((row).length : Int)) (0 : Int)))) from (EvC.wkR (ec_last (es_ret (ev_ixT (f := Val.int) (0 : Int) h.2 (ev_v 0 rfl (pv 0)) (ev_mod h.1 (ev_v 1 rfl (pv 1)) (ev_lenT m_len (ev_v 0 rfl (pv 0)) (.val _) (.tup _))) (.val _) (.tup _))) rfl) (.n (.n .nil))))
    exact ⟨_, EvC.ss main_, water_at_oo (water_at row hour) row hour⟩
/-! next_at_least -/
abbrev s_next_at_least : Stmt := topS 5
theorem sc_next_at_least : FnScope ["row", "hour", "level", "later"] ["row", "hour", "level"] (defScope s_next_at_least) := ⟨rfl, rfl, rfl, by decide +kernel, rfl, by decide +kernel, by decide +kernel⟩
def next_at_least_e3 (row : (List Int)) (x : Int) : Int := (water_at row x)
def next_at_least_f2 (row : (List Int)) (level : Int) (s : Unit) (x : Int) : LO (Unit) ((Option Int)) := (if (decide (level ≤ (next_at_least_e3 row x))) = true then LO.rt (some x) else LO.nx ())
def next_at_least_f2_ok (row : (List Int)) (level : Int) (s : Unit) (x : Int) : Prop := water_at_ok row x
def next_at_least (row : (List Int)) (hour : Int) (level : Int) : ((Option Int)) := (afterL (loopL (next_at_least_f2 row level) () (irange hour (hour + ((row).length : Int)))) (fun so1 => (none : (Option Int))) (fun r5 => r5))
def next_at_least_ok (row : (List Int)) (hour : Int) (level : Int) : Prop := loopOk (next_at_least_f2 row level) (next_at_least_f2_ok row level) () (irange hour (hour + ((row).length : Int)))
def next_at_least_o (t : ((Option Int))) : Out := .rt (.im ((encO Val.int) t)) [.no, .no, .no, .no]
theorem next_at_least_oo (t : ((Option Int))) (row : (List Int)) (hour : Int) (level : Int) : OutOk [.im ((encT Val.int) row), .im (Val.int hour), .im (Val.int level)] (.im ((encO Val.int) t)) [.im ((encT Val.int) row), .im (Val.int hour), .im (Val.int level)] (next_at_least_o t) := by
  exact ⟨rfl, OE.ok (.im (.im (.im .nil)))⟩
def R_next_at_least : Rel := fun args_ r_ outs_ => ∃ (row : (List Int)) (hour : Int) (level : Int), next_at_least_ok row hour level ∧ args_ = [.im ((encT Val.int) row), .im (Val.int hour), .im (Val.int level)] ∧ r_ = .im ((encO Val.int) (next_at_least row hour level)) ∧ outs_ = [.im ((encT Val.int) row), .im (Val.int hour), .im (Val.int level)]
theorem R_next_at_least_of (row : (List Int)) (hour : Int) (level : Int) {v_ : ((Option Int))} (h : next_at_least_ok row hour level) (e : next_at_least row hour level = v_) : R_next_at_least [.im ((encT Val.int) row), .im (Val.int hour), .im (Val.int level)] (.im ((encO Val.int) v_)) [.im ((encT Val.int) row), .im (Val.int hour), .im (Val.int level)] := by subst e; exact ⟨row, hour, level, h, rfl, rfl, rfl⟩
set_option maxHeartbeats 2000000 in
theorem ok_next_at_least (D : DefAt K mg "next_at_least" s_next_at_least ["row", "hour", "level"]) (m_range : mg "range" = none) (m_len : mg "len" = none) (C_water_at : CalOk P w K mg base "water_at" ["row", "hour"] 1 R_water_at) : CalOk P w K mg base "next_at_least" ["row", "hour", "level"] 2 R_next_at_least := by
  refine D.ok sc_next_at_least (by decide) (fun args r outs h => ?_) (fun f_ cdv_ A_ outer_ sh_ H_ E_ hr_ args r outs h => ?_)
  · obtain ⟨row, hour, level, h, rfl, rfl, rfl⟩ := h; exact len_of rfl rfl
  · obtain ⟨row, hour, level, h, rfl, rfl, rfl⟩ := h
    have nd_ := sc_next_at_least.nd
    have hu64_ := hu64 hr_; have hu65_ := hu65 hr_
    have next_at_least_f2_b : ∀ (row : (List Int)) (level : Int) (s : Unit) (x : Int), next_at_least_f2_ok row level s x → ∃ envt, EvG (cxOf CX0 P w K mg base ["row", "hour", "level", "later"] "next_at_least" (defScope s_next_at_least) f_ cdv_ A_ outer_ sh_ H_ E_).nox [] (forTg (stAt (defBody s_next_at_least) 0)) (Val.int x) [.im ((encT Val.int) row), .no, .im (Val.int level), .no] envt ∧ EvSs (cxOf CX0 P w K mg base ["row", "hour", "level", "later"] "next_at_least" (defScope s_next_at_least) f_ cdv_ A_ outer_ sh_ H_ E_).nox [] (loopBody (stAt (defBody s_next_at_least) 0)) envt (outLO (fun so1 : Unit => [.im ((encT Val.int) row), .no, .im (Val.int level), .no]) next_at_least_o ((next_at_least_f2 row level) s x)) := fun row level s x h => ⟨_, (eg_name 3 (pg_name nd_ rfl (by first | exact .inl rfl | exact .inr rfl)) (Nat.le_of_ble_eq_true rfl) (nm rfl)), EvC.ss (ec_ifV (outLO (fun so1 : Unit => [.im ((encT Val.int) row), .no, .im (Val.int level), .no]) next_at_least_o) (t1 := LO.rt (some x)) (t0 := LO.nx ()) (et_ge (ev_call (C_water_at.pe hr_ (by decide) (by rfl)) (ea_cons (ev_v 0 rfl (pv 0)) (ea_cons (ev_v 3 rfl (pv 3)) ea_nil)) (.im (.im .nil)) (R_water_at_of row x h (rfl : (water_at row x) = (next_at_least_e3 row x)))) (ev_v 2 rfl (pv 2))) (fun hc4 => (EvC.wkR (ec_last (es_ret (ev_v 3 rfl (pv 3))) rfl) (.n (.n (.n (.n .nil)))))) (fun hc4 => (ec_nil (ec_nil (EvC.wkN ec_end (.s (.n (.s (.n .nil)))))))))⟩
    have main_ : EvC (cxOf CX0 P w K mg base ["row", "hour", "level", "later"] "next_at_least" (defScope s_next_at_least) f_ cdv_ A_ outer_ sh_ H_ E_).nox [] [defBody s_next_at_least] [.im ((encT Val.int) row), .im (Val.int hour), .im (Val.int level), .no] (next_at_least_o (next_at_least row hour level)) := (show EvC _ _ _ _ (next_at_least_o ((afterL (loopL (next_at_least_f2 row level) () (irange hour (hour + ((row).length : Int)))) (fun so1 => (none : (Option Int))) (fun r5 => r5)))) from (ec_loop next_at_least_o (k := fun so1 => (none : (Option Int))) (r := (fun r5 => r5)) (es_forLW2 (envS := (fun so1 : Unit => [.im ((encT Val.int) row), .no, .im (Val.int level), .no])) (outR := next_at_least_o) (fun _ => isRt) (next_at_least_f2 row level) (next_at_least_f2_ok row level) hour (hour + ((row).length : Int)) () rfl PassesOwn.never m_range (ev_v 1 rfl (pv 1)) (Ev.wk (ev_add (ev_v 1 rfl (pv 1)) (ev_lenT m_len (ev_v 0 rfl (pv 0)) (.val _) (.tup _))) (.s (.n (.s (.n .nil))))) h (fun st_ xt_ hx_ ho_ => next_at_least_f2_b row level st_ xt_ ho_)) (fun so1 hs6 => EvC.ren (env1 := [.im ((encT Val.int) row), .no, .im (Val.int level), .no]) (EvC.wkR (ec_last (es_ret ev_non) rfl) (.n (.n (.n (.n .nil))))) rfl) (fun _ => ⟨rfl, isRt⟩)))
    exact ⟨_, EvC.ss main_, next_at_least_oo (next_at_least row hour level) row hour level⟩
/-! hours_shut -/
abbrev s_hours_shut : Stmt := topS 6
theorem sc_hours_shut : FnScope ["row", "level", "begin", "end", "hour"] ["row", "level", "begin", "end"] (defScope s_hours_shut) := ⟨rfl, rfl, rfl, by decide +kernel, rfl, by decide +kernel, by decide +kernel⟩
def hours_shut_e2 (row : (List Int)) (x1 : Int) : Int := (water_at row x1)
def hours_shut (row : (List Int)) (level : Int) (begin_ : Int) (end_ : Int) : ((List Int)) := (((irange begin_ end_).filter (fun x1 => (decide ((hours_shut_e2 row x1) < level)))).map (fun x1 => x1))
def hours_shut_ok (row : (List Int)) (level : Int) (begin_ : Int) (end_ : Int) : Prop := (end_ ≤ begin_ + 16777216 ∧ (∀ x1 ∈ (irange begin_ end_), water_at_ok row x1))
def hours_shut_o (t : ((List Int))) : Out := .rt (.im ((encT Val.int) t)) [.no, .no, .no, .no, .no]
theorem hours_shut_oo (t : ((List Int))) (row : (List Int)) (level : Int) (begin_ : Int) (end_ : Int) : OutOk [.im ((encT Val.int) row), .im (Val.int level), .im (Val.int begin_), .im (Val.int end_)] (.im ((encT Val.int) t)) [.im ((encT Val.int) row), .im (Val.int level), .im (Val.int begin_), .im (Val.int end_)] (hours_shut_o t) := by
  exact ⟨rfl, OE.ok (.im (.im (.im (.im .nil))))⟩
def R_hours_shut : Rel := fun args_ r_ outs_ => ∃ (row : (List Int)) (level : Int) (begin_ : Int) (end_ : Int), hours_shut_ok row level begin_ end_ ∧ args_ = [.im ((encT Val.int) row), .im (Val.int level), .im (Val.int begin_), .im (Val.int end_)] ∧ r_ = .im ((encT Val.int) (hours_shut row level begin_ end_)) ∧ outs_ = [.im ((encT Val.int) row), .im (Val.int level), .im (Val.int begin_), .im (Val.int end_)]
theorem R_hours_shut_of (row : (List Int)) (level : Int) (begin_ : Int) (end_ : Int) {v_ : ((List Int))} (h : hours_shut_ok row level begin_ end_) (e : hours_shut row level begin_ end_ = v_) : R_hours_shut [.im ((encT Val.int) row), .im (Val.int level), .im (Val.int begin_), .im (Val.int end_)] (.im ((encT Val.int) v_)) [.im ((encT Val.int) row), .im (Val.int level), .im (Val.int begin_), .im (Val.int end_)] := by subst e; exact ⟨row, level, begin_, end_, h, rfl, rfl, rfl⟩
set_option maxHeartbeats 2000000 in
theorem ok_hours_shut (D : DefAt K mg "hours_shut" s_hours_shut ["row", "level", "begin", "end"]) (m_tuple : mg "tuple" = none) (m_range : mg "range" = none) (C_water_at : CalOk P w K mg base "water_at" ["row", "hour"] 1 R_water_at) : CalOk P w K mg base "hours_shut" ["row", "level", "begin", "end"] 2 R_hours_shut := by
  refine D.ok sc_hours_shut (by decide) (fun args r outs h => ?_) (fun f_ cdv_ A_ outer_ sh_ H_ E_ hr_ args r outs h => ?_)
  · obtain ⟨row, level, begin_, end_, h, rfl, rfl, rfl⟩ := h; exact len_of rfl rfl
  · obtain ⟨row, level, begin_, end_, h, rfl, rfl, rfl⟩ := h
    have nd_ := sc_hours_shut.nd
    have hu64_ := hu64 hr_; have hu65_ := hu65 hr_
    have main_ : EvC (cxOf CX0 P w K mg base ["row", "level", "begin", "end", "hour"] "hours_shut" (defScope s_hours_shut) f_ cdv_ A_ outer_ sh_ H_ E_).nox [] [defBody s_hours_shut] [.im ((encT Val.int) row), .im (Val.int level), .im (Val.int begin_), .im (Val.int end_), .no] (hours_shut_o (hours_shut row level begin_ end_)) := (show EvC _ _ _ _ (hours_shut_o ((((irange begin_ end_).filter (fun x1 => (decide ((hours_shut_e2 row x1) < level)))).map (fun x1 => x1)))) from (EvC.wkR (ec_last (es_ret (ev_tuple m_tuple (EvN.frz (en_lc1 (own := [("hour", 4)]) rfl nd_ (pi_rangeW2 (by rfl) m_range (pa_wp _)) (blkOk_by rfl) (lcF (vs := List.map (·.2) ([("hour", 4)] : List (Str × Nat))) Val.int Val.int (irange begin_ end_) (fun x1 => (decide ((hours_shut_e2 row x1) < level))) (fun x1 => x1) (fun x1 => water_at_ok row x1) (fun x1 => True) (src_w2 (ev_v 2 rfl (pv 2)) (ev_v 3 rfl (pv 3)) h.1) (fun x1 hx3 => ⟨(h.2 x1 hx3), fun hp5 => trivial⟩) fun x1 hx3 ho4 => ⟨_, fun _ _ _ _ _ => (eg_name 4 (pg_name nd_ rfl (by first | exact .inl rfl | exact .inr rfl)) (Nat.le_of_ble_eq_true rfl) (nm rfl)), rfl, fun _ _ _ _ _ => (et_lt (ev_call (C_water_at.pe hr_ (by decide) (by rfl)) (ea_cons (ev_v 0 rfl (pv 0)) (ea_cons (ev_v 4 rfl (pv 4)) ea_nil)) (.im (.im .nil)) (R_water_at_of row x1 ho4 (rfl : (water_at row x1) = (hours_shut_e2 row x1)))) (ev_v 1 rfl (pv 1))), fun hp5 hghp5 _ _ _ _ _ => (ev_v 4 rfl (pv 4))⟩))) (.val _))) rfl) (.n (.n (.n (.n (.n .nil)))))))
    exact ⟨_, EvC.ss main_, hours_shut_oo (hours_shut row level begin_ end_) row level begin_ end_⟩
/-! highest_in -/
abbrev s_highest_in : Stmt := topS 7
theorem sc_highest_in : FnScope ["row", "begin", "end", "most", "hour"] ["row", "begin", "end"] (defScope s_highest_in) := ⟨rfl, rfl, rfl, by decide +kernel, rfl, by decide +kernel, by decide +kernel⟩
def highest_in_e2 (row : (List Int)) (x1 : Int) : Int := (water_at row x1)
def highest_in_e3 (row : (List Int)) (begin_ : Int) (end_ : Int) : Int := (maxT (fun a b : Int => decide (a < b)) ((irange begin_ (min end_ (begin_ + ((row).length : Int)))).map (fun x1 => (highest_in_e2 row x1))) (0 : Int))
def highest_in_e4 (row : (List Int)) (begin_ : Int) (end_ : Int) : (Option Int) := (next_at_least row begin_ (highest_in_e3 row begin_ end_))
def highest_in (row : (List Int)) (begin_ : Int) (end_ : Int) : (((Option Int) × Int)) := ((highest_in_e4 row begin_ end_), (highest_in_e3 row begin_ end_))
def highest_in_ok (row : (List Int)) (begin_ : Int) (end_ : Int) : Prop := ((((min end_ (begin_ + ((row).length : Int))) ≤ begin_ + 16777216 ∧ (∀ x1 ∈ (irange begin_ (min end_ (begin_ + ((row).length : Int)))), water_at_ok row x1)) ∧ ((irange begin_ (min end_ (begin_ + ((row).length : Int)))).map (fun x1 => (highest_in_e2 row x1))) ≠ []) ∧ next_at_least_ok row begin_ (highest_in_e3 row begin_ end_))
def highest_in_o (t : (((Option Int) × Int))) : Out := .rt (.im ((enc2 (encO Val.int) Val.int) t)) [.no, .no, .no, .no, .no]
theorem highest_in_oo (t : (((Option Int) × Int))) (row : (List Int)) (begin_ : Int) (end_ : Int) : OutOk [.im ((encT Val.int) row), .im (Val.int begin_), .im (Val.int end_)] (.im ((enc2 (encO Val.int) Val.int) t)) [.im ((encT Val.int) row), .im (Val.int begin_), .im (Val.int end_)] (highest_in_o t) := by
  exact ⟨rfl, OE.ok (.im (.im (.im .nil)))⟩
def R_highest_in : Rel := fun args_ r_ outs_ => ∃ (row : (List Int)) (begin_ : Int) (end_ : Int), highest_in_ok row begin_ end_ ∧ args_ = [.im ((encT Val.int) row), .im (Val.int begin_), .im (Val.int end_)] ∧ r_ = .im ((enc2 (encO Val.int) Val.int) (highest_in row begin_ end_)) ∧ outs_ = [.im ((encT Val.int) row), .im (Val.int begin_), .im (Val.int end_)]
theorem R_highest_in_of (row : (List Int)) (begin_ : Int) (end_ : Int) {v_ : (((Option Int) × Int))} (h : highest_in_ok row begin_ end_) (e : highest_in row begin_ end_ = v_) : R_highest_in [.im ((encT Val.int) row), .im (Val.int begin_), .im (Val.int end_)] (.im ((enc2 (encO Val.int) Val.int) v_)) [.im ((encT Val.int) row), .im (Val.int begin_), .im (Val.int end_)] := by subst e; exact ⟨row, begin_, end_, h, rfl, rfl, rfl⟩
set_option maxHeartbeats 2000000 in
theorem ok_highest_in (D : DefAt K mg "highest_in" s_highest_in ["row", "begin", "end"]) (m_max : mg "max" = none) (m_range : mg "range" = none) (m_min : mg "min" = none) (m_len : mg "len" = none) (C_water_at : CalOk P w K mg base "water_at" ["row", "hour"] 1 R_water_at) (C_next_at_least : CalOk P w K mg base "next_at_least" ["row", "hour", "level"] 2 R_next_at_least) : CalOk P w K mg base "highest_in" ["row", "begin", "end"] 3 R_highest_in := by
  refine D.ok sc_highest_in (by decide) (fun args r outs h => ?_) (fun f_ cdv_ A_ outer_ sh_ H_ E_ hr_ args r outs h => ?_)
  · obtain ⟨row, begin_, end_, h, rfl, rfl, rfl⟩ := h; exact len_of rfl rfl
  · obtain ⟨row, begin_, end_, h, rfl, rfl, rfl⟩ := h
    have nd_ := sc_highest_in.nd
    have hu64_ := hu64 hr_; have hu65_ := hu65 hr_
    have main_ : EvC (cxOf CX0 P w K mg base ["row", "begin", "end", "most", "hour"] "highest_in" (defScope s_highest_in) f_ cdv_ A_ outer_ sh_ H_ E_).nox [] [defBody s_highest_in] [.im ((encT Val.int) row), .im (Val.int begin_), .im (Val.int end_), .no, .no] (highest_in_o (highest_in row begin_ end_)) := (show EvC _ _ _ _ (highest_in_o (((highest_in_e4 row begin_ end_), (highest_in_e3 row begin_ end_)))) from (ec_cons (EvS.to (env2 := [.im ((encT Val.int) row), .im (Val.int begin_), .im (Val.int end_), .im (Val.int (highest_in_e3 row begin_ end_)), .no]) (es_setV (ps_set (i := 3) nd_ rfl (by first | exact .inl rfl | exact .inr rfl) (pe_wp _)) (ev_maxT rfl hu64_ m_max lw_int od_int (by decide) (0 : Int) h.1.2 (EvN.frz (en_lc0 (own := [("hour", 4)]) rfl nd_ (pi_rangeW2 (by rfl) m_range (pa_wp _)) (blkOk_by rfl) (lcM (vs := List.map (·.2) ([("hour", 4)] : List (Str × Nat))) Val.int Val.int (irange begin_ (min end_ (begin_ + ((row).length : Int)))) (fun x1 => (highest_in_e2 row x1)) (fun x1 => water_at_ok row x1) (src_w2 (ev_v 1 rfl (pv 1)) (ev_min2 rfl m_min (ev_v 2 rfl (pv 2)) (ev_add (ev_v 1 rfl (pv 1)) (ev_lenT m_len (ev_v 0 rfl (pv 0)) (.val _) (.tup _)))) h.1.1.1) (fun x1 hx5 => h.1.1.2 x1 hx5) fun x1 hx5 ho6 => ⟨_, fun _ _ _ _ _ => (eg_name 4 (pg_name nd_ rfl (by first | exact .inl rfl | exact .inr rfl)) (Nat.le_of_ble_eq_true rfl) (nm rfl)), rfl, fun _ _ _ _ _ => (ev_call (C_water_at.pe hr_ (by decide) (by rfl)) (ea_cons (ev_v 0 rfl (pv 0)) (ea_cons (ev_v 4 rfl (pv 4)) ea_nil)) (.im (.im .nil)) (R_water_at_of row x1 ho6 (rfl : (water_at row x1) = (highest_in_e2 row x1))))⟩))) (.val _) (.lst _)) (Nat.le_of_ble_eq_true rfl) (nm rfl)) rfl) (EvC.wkR (ec_last (es_ret (ev_tup (xs := [(encO Val.int) (highest_in_e4 row begin_ end_), Val.int (highest_in_e3 row begin_ end_)]) (Nat.le_of_ble_eq_true rfl) (ea_cons (ev_call (C_next_at_least.pe hr_ (by decide) (by rfl)) (ea_cons (ev_v 0 rfl (pv 0)) (ea_cons (ev_v 1 rfl (pv 1)) (ea_cons (ev_v 3 rfl (pv 3)) ea_nil))) (.im (.im (.im .nil))) (R_next_at_least_of row begin_ (highest_in_e3 row begin_ end_) h.2 (rfl : (next_at_least row begin_ (highest_in_e3 row begin_ end_)) = (highest_in_e4 row begin_ end_)))) (ea_cons (ev_v 3 rfl (pv 3)) ea_nil)))) rfl) (.n (.n (.n (.n (.n .nil))))))))
    exact ⟨_, EvC.ss main_, highest_in_oo (highest_in row begin_ end_) row begin_ end_⟩
/-! longest_window -/
abbrev s_longest_window : Stmt := topS 8
theorem sc_longest_window : FnScope ["row", "level", "best", "now", "hour"] ["row", "level"] (defScope s_longest_window) := ⟨rfl, rfl, rfl, by decide +kernel, rfl, by decide +kernel, by decide +kernel⟩
def longest_window_e3 (row : (List Int)) (x : Int) : Int := (water_at row x)
def longest_window_f2 (row : (List Int)) (level : Int) (s : Int × Int) (x : Int) : Int × Int := ((max s.1 (if (decide (level ≤ (longest_window_e3 row x))) = true then (s.2 + (1 : Int)) else (0 : Int))), (if (decide (level ≤ (longest_window_e3 row x))) = true then (s.2 + (1 : Int)) else (0 : Int)))
def longest_window_f2_ok (row : (List Int)) (level : Int) (s : Int × Int) (x : Int) : Prop := water_at_ok row x
def longest_window (row : (List Int)) (level : Int) : ((Option Int)) := (if (decide (level ≤ (minT (fun a b : Int => decide (a < b)) row (0 : Int)))) = true then (none : (Option Int)) else (some ((irange 0 ((2 : Int) * ((row).length : Int))).foldl (longest_window_f2 row level) ((0 : Int), (0 : Int))).1))
def longest_window_ok (row : (List Int)) (level : Int) : Prop := (row ≠ [] ∧ ((decide (level ≤ (minT (fun a b : Int => decide (a < b)) row (0 : Int)))) = false → foldOk (longest_window_f2 row level) (longest_window_f2_ok row level) ((0 : Int), (0 : Int)) (irange 0 ((2 : Int) * ((row).length : Int)))))
def longest_window_o (t : ((Option Int))) : Out := .rt (.im ((encO Val.int) t)) [.no, .no, .no, .no, .no]
theorem longest_window_oo (t : ((Option Int))) (row : (List Int)) (level : Int) : OutOk [.im ((encT Val.int) row), .im (Val.int level)] (.im ((encO Val.int) t)) [.im ((encT Val.int) row), .im (Val.int level)] (longest_window_o t) := by
  exact ⟨rfl, OE.ok (.im (.im .nil))⟩
def R_longest_window : Rel := fun args_ r_ outs_ => ∃ (row : (List Int)) (level : Int), longest_window_ok row level ∧ args_ = [.im ((encT Val.int) row), .im (Val.int level)] ∧ r_ = .im ((encO Val.int) (longest_window row level)) ∧ outs_ = [.im ((encT Val.int) row), .im (Val.int level)]
theorem R_longest_window_of (row : (List Int)) (level : Int) {v_ : ((Option Int))} (h : longest_window_ok row level) (e : longest_window row level = v_) : R_longest_window [.im ((encT Val.int) row), .im (Val.int level)] (.im ((encO Val.int) v_)) [.im ((encT Val.int) row), .im (Val.int level)] := by subst e; exact ⟨row, level, h, rfl, rfl, rfl⟩
set_option maxHeartbeats 2000000 in
theorem ok_longest_window (D : DefAt K mg "longest_window" s_longest_window ["row", "level"]) (m_min : mg "min" = none) (m_range : mg "range" = none) (m_len : mg "len" = none) (m_max : mg "max" = none) (C_water_at : CalOk P w K mg base "water_at" ["row", "hour"] 1 R_water_at) : CalOk P w K mg base "longest_window" ["row", "level"] 2 R_longest_window := by
  refine D.ok sc_longest_window (by decide) (fun args r outs h => ?_) (fun f_ cdv_ A_ outer_ sh_ H_ E_ hr_ args r outs h => ?_)
  · obtain ⟨row, level, h, rfl, rfl, rfl⟩ := h; exact len_of rfl rfl
  · obtain ⟨row, level, h, rfl, rfl, rfl⟩ := h
    have nd_ := sc_longest_window.nd
    have hu64_ := hu64 hr_; have hu65_ := hu65 hr_
    have longest_window_f2_b : ∀ (row : (List Int)) (level : Int) (s : Int × Int) (x : Int), longest_window_f2_ok row level s x → ∃ envt, EvG (cxOf CX0 P w K mg base ["row", "level", "best", "now", "hour"] "longest_window" (defScope s_longest_window) f_ cdv_ A_ outer_ sh_ H_ E_).nox [] (forTg (stAt (defBody s_longest_window) 2)) (Val.int x) [.im ((encT Val.int) row), .im (Val.int level), .im (Val.int s.1), .im (Val.int s.2), .no] envt ∧ EvSs (cxOf CX0 P w K mg base ["row", "level", "best", "now", "hour"] "longest_window" (defScope s_longest_window) f_ cdv_ A_ outer_ sh_ H_ E_).nox [] (loopBody (stAt (defBody s_longest_window) 2)) envt (.nx ((fun so1 : Int × Int => (match so1 with | (so1_0, so1_1) => [.im ((encT Val.int) row), .im (Val.int level), .im (Val.int so1_0), .im (Val.int so1_1), .no] : List Sl)) ((longest_window_f2 row level) s x))) := fun row level s x h => ⟨_, (eg_name 4 (pg_name nd_ rfl (by first | exact .inl rfl | exact .inr rfl)) (Nat.le_of_ble_eq_true rfl) (nm rfl)), EvSs.wkN (ess_cons (EvS.to (env2 := [.im ((encT Val.int) row), .im (Val.int level), .im (Val.int s.1), .im (Val.int (if (decide (level ≤ (longest_window_e3 row x))) = true then (s.2 + (1 : Int)) else (0 : Int))), .im (Val.int x)]) (es_setV (ps_set (i := 3) nd_ rfl (by first | exact .inl rfl | exact .inr rfl) (pe_wp _)) (ev_ifT (f := Val.int) (et_ge (ev_call (C_water_at.pe hr_ (by decide) (by rfl)) (ea_cons (ev_v 0 rfl (pv 0)) (ea_cons (ev_v 4 rfl (pv 4)) ea_nil)) (.im (.im .nil)) (R_water_at_of row x h (rfl : (water_at row x) = (longest_window_e3 row x)))) (ev_v 1 rfl (pv 1))) (fun hc4 => (ev_add (ev_v 3 rfl (pv 3)) ev_int)) (fun hc4 => ev_int)) (Nat.le_of_ble_eq_true rfl) (nm rfl)) rfl) (ess_cons (EvS.to (env2 := [.im ((encT Val.int) row), .im (Val.int level), .im (Val.int (max s.1 (if (decide (level ≤ (longest_window_e3 row x))) = true then (s.2 + (1 : Int)) else (0 : Int)))), .im (Val.int (if (decide (level ≤ (longest_window_e3 row x))) = true then (s.2 + (1 : Int)) else (0 : Int))), .im (Val.int x)]) (es_setV (ps_set (i := 2) nd_ rfl (by first | exact .inl rfl | exact .inr rfl) (pe_wp _)) (ev_max2 rfl m_max (ev_v 2 rfl (pv 2)) (ev_v 3 rfl (pv 3))) (Nat.le_of_ble_eq_true rfl) (nm rfl)) rfl) ess_nil)) (.s (.s (.s (.s (.n .nil)))))⟩
    have main_ : EvC (cxOf CX0 P w K mg base ["row", "level", "best", "now", "hour"] "longest_window" (defScope s_longest_window) f_ cdv_ A_ outer_ sh_ H_ E_).nox [] [defBody s_longest_window] [.im ((encT Val.int) row), .im (Val.int level), .no, .no, .no] (longest_window_o (longest_window row level)) := (show EvC _ _ _ _ (longest_window_o ((if (decide (level ≤ (minT (fun a b : Int => decide (a < b)) row (0 : Int)))) = true then (none : (Option Int)) else (some ((irange 0 ((2 : Int) * ((row).length : Int))).foldl (longest_window_f2 row level) ((0 : Int), (0 : Int))).1)))) from (ec_ifV longest_window_o (t1 := (none : (Option Int))) (t0 := (some ((irange 0 ((2 : Int) * ((row).length : Int))).foldl (longest_window_f2 row level) ((0 : Int), (0 : Int))).1)) (et_ge (ev_minT rfl hu64_ m_min lw_int od_int (by decide) (0 : Int) h.1 (ev_v 0 rfl (pv 0)) (.val _) (.tup _)) (ev_v 1 rfl (pv 1))) (fun hc5 => (EvC.wkR (ec_last (es_ret ev_non) rfl) (.n (.n (.n (.n (.n .nil))))))) (fun hc5 => (ec_nil (ec_cons (EvS.to (env2 := [.im ((encT Val.int) row), .im (Val.int level), .im (Val.int (0 : Int)), .im (Val.int (0 : Int)), .no]) (es_asg (ps_asg (pe_wp _) (pg_wp _)) (Ev.r (ev_tup (xs := [Val.int (0 : Int), Val.int (0 : Int)]) (Nat.le_of_ble_eq_true rfl) (ea_cons ev_int (ea_cons ev_int ea_nil)))) (eg_tup rfl (egs_cons (eg_name 2 (pg_name nd_ rfl (by first | exact .inl rfl | exact .inr rfl)) (Nat.le_of_ble_eq_true rfl) (nm rfl)) (egs_cons (eg_name 3 (pg_name nd_ rfl (by first | exact .inl rfl | exact .inr rfl)) (Nat.le_of_ble_eq_true rfl) (nm rfl)) egs_nil)) rfl)) rfl) (ec_cons (EvS.to (env2 := [.im ((encT Val.int) row), .im (Val.int level), .im (Val.int ((irange 0 ((2 : Int) * ((row).length : Int))).foldl (longest_window_f2 row level) ((0 : Int), (0 : Int))).1), .im (Val.int ((irange 0 ((2 : Int) * ((row).length : Int))).foldl (longest_window_f2 row level) ((0 : Int), (0 : Int))).2), .no]) (es_forFW1 (fun so1 : Int × Int => (match so1 with | (so1_0, so1_1) => [.im ((encT Val.int) row), .im (Val.int level), .im (Val.int so1_0), .im (Val.int so1_1), .no] : List Sl)) (longest_window_f2 row level) (longest_window_f2_ok row level) ((2 : Int) * ((row).length : Int)) ((0 : Int), (0 : Int)) rfl PassesOwn.never m_range (Ev.wk (ev_mul (.inl (.inl ⟨by decide +kernel, by decide +kernel⟩)) ev_int (ev_lenT m_len (ev_v 0 rfl (pv 0)) (.val _) (.tup _))) (.s (.s (.s (.s (.n .nil)))))) (h.2 hc5) (fun st_ xt_ hx_ ho_ => longest_window_f2_b row level st_ xt_ ho_)) ((show ∀ so1 : Int × Int, (fun so1 : Int × Int => (match so1 with | (so1_0, so1_1) => [.im ((encT Val.int) row), .im (Val.int level), .im (Val.int so1_0), .im (Val.int so1_1), .no] : List Sl)) so1 = ([.im ((encT Val.int) row), .im (Val.int level), .im (Val.int so1.1), .im (Val.int so1.2), .no] : List Sl) from fun (so1_0, so1_1) => rfl) _)) (EvC.wkR (ec_last (es_ret (ev_v 2 rfl (pv 2))) rfl) (.n (.n (.n (.n (.n .nil))))))))))))
    exact ⟨_, EvC.ss main_, longest_window_oo (longest_window row level) row level⟩
/-! turned_row -/
abbrev s_turned_row : Stmt := topS 9
theorem sc_turned_row : FnScope ["row", "by", "hour"] ["row", "by"] (defScope s_turned_row) := ⟨rfl, rfl, rfl, by decide +kernel, rfl, by decide +kernel, by decide +kernel⟩
def turned_row_e2 (row : (List Int)) (by_ : Int) (x1 : Int) : Int := (water_at row (x1 - by_))
def turned_row (row : (List Int)) (by_ : Int) : ((List Int)) := ((irange 0 ((row).length : Int)).map (fun x1 => (turned_row_e2 row by_ x1)))
def turned_row_ok (row : (List Int)) (by_ : Int) : Prop := (((row).length : Int) ≤ 16777216 ∧ (∀ x1 ∈ (irange 0 ((row).length : Int)), water_at_ok row (x1 - by_)))
def turned_row_o (t : ((List Int))) : Out := .rt (.im ((encT Val.int) t)) [.no, .no, .no]
theorem turned_row_oo (t : ((List Int))) (row : (List Int)) (by_ : Int) : OutOk [.im ((encT Val.int) row), .im (Val.int by_)] (.im ((encT Val.int) t)) [.im ((encT Val.int) row), .im (Val.int by_)] (turned_row_o t) := by
  exact ⟨rfl, OE.ok (.im (.im .nil))⟩
def R_turned_row : Rel := fun args_ r_ outs_ => ∃ (row : (List Int)) (by_ : Int), turned_row_ok row by_ ∧ args_ = [.im ((encT Val.int) row), .im (Val.int by_)] ∧ r_ = .im ((encT Val.int) (turned_row row by_)) ∧ outs_ = [.im ((encT Val.int) row), .im (Val.int by_)]
theorem R_turned_row_of (row : (List Int)) (by_ : Int) {v_ : ((List Int))} (h : turned_row_ok row by_) (e : turned_row row by_ = v_) : R_turned_row [.im ((encT Val.int) row), .im (Val.int by_)] (.im ((encT Val.int) v_)) [.im ((encT Val.int) row), .im (Val.int by_)] := by subst e; exact ⟨row, by_, h, rfl, rfl, rfl⟩
set_option maxHeartbeats 2000000 in
theorem ok_turned_row (D : DefAt K mg "turned_row" s_turned_row ["row", "by"]) (m_tuple : mg "tuple" = none) (m_range : mg "range" = none) (m_len : mg "len" = none) (C_water_at : CalOk P w K mg base "water_at" ["row", "hour"] 1 R_water_at) : CalOk P w K mg base "turned_row" ["row", "by"] 2 R_turned_row := by
  refine D.ok sc_turned_row (by decide) (fun args r outs h => ?_) (fun f_ cdv_ A_ outer_ sh_ H_ E_ hr_ args r outs h => ?_)
  · obtain ⟨row, by_, h, rfl, rfl, rfl⟩ := h; exact len_of rfl rfl
  · obtain ⟨row, by_, h, rfl, rfl, rfl⟩ := h
    have nd_ := sc_turned_row.nd
    have hu64_ := hu64 hr_; have hu65_ := hu65 hr_
    have main_ : EvC (cxOf CX0 P w K mg base ["row", "by", "hour"] "turned_row" (defScope s_turned_row) f_ cdv_ A_ outer_ sh_ H_ E_).nox [] [defBody s_turned_row] [.im ((encT Val.int) row), .im (Val.int by_), .no] (turned_row_o (turned_row row by_)) := (show EvC _ _ _ _ (turned_row_o (((irange 0 ((row).length : Int)).map (fun x1 => (turned_row_e2 row by_ x1))))) from (EvC.wkR (ec_last (es_ret (ev_tuple m_tuple (EvN.frz (en_lc0 (own := [("hour", 2)]) rfl nd_ (pi_rangeW1 (by rfl) m_range (pa_wp _)) (blkOk_by rfl) (lcM (vs := List.map (·.2) ([("hour", 2)] : List (Str × Nat))) Val.int Val.int (irange 0 ((row).length : Int)) (fun x1 => (turned_row_e2 row by_ x1)) (fun x1 => water_at_ok row (x1 - by_)) (src_w1 (ev_lenT m_len (ev_v 0 rfl (pv 0)) (.val _) (.tup _)) h.1) (fun x1 hx3 => h.2 x1 hx3) fun x1 hx3 ho4 => ⟨_, fun _ _ _ _ _ => (eg_name 2 (pg_name nd_ rfl (by first | exact .inl rfl | exact .inr rfl)) (Nat.le_of_ble_eq_true rfl) (nm rfl)), rfl, fun _ _ _ _ _ => (ev_call (C_water_at.pe hr_ (by decide) (by rfl)) (ea_cons (ev_v 0 rfl (pv 0)) (ea_cons (ev_sub (ev_v 2 rfl (pv 2)) (ev_v 1 rfl (pv 1))) ea_nil)) (.im (.im .nil)) (R_water_at_of row (x1 - by_) ho4 (rfl : (water_at row (x1 - by_)) = (turned_row_e2 row by_ x1))))⟩))) (.val _))) rfl) (.n (.n (.n .nil)))))
    exact ⟨_, EvC.ss main_, turned_row_oo (turned_row row by_) row by_⟩
/-! both_rows -/
abbrev s_both_rows : Stmt := topS 10
theorem sc_both_rows : FnScope ["one", "other", "many", "hour"] ["one", "other"] (defScope s_both_rows) := ⟨rfl, rfl, rfl, by decide +kernel, rfl, by decide +kernel, by decide +kernel⟩
def both_rows_e1 (one : (List Int)) (other : (List Int)) : Int := (divisor_of ((one).length : Int) ((other).length : Int))
def both_rows_e3 (one : (List Int)) (x2 : Int) : Int := (water_at one x2)
def both_rows_e4 (other : (List Int)) (x2 : Int) : Int := (water_at other x2)
def both_rows (one : (List Int)) (other : (List Int)) : ((Option (List Int))) := (if (decide ((400 : Int) < ((((one).length : Int) * ((other).length : Int)) / (both_rows_e1 one other)))) = true then (none : (Option (List Int))) else (some ((irange 0 ((((one).length : Int) * ((other).length : Int)) / (both_rows_e1 one other))).map (fun x2 => ((both_rows_e3 one x2) + (both_rows_e4 other x2))))))
def both_rows_ok (one : (List Int)) (other : (List Int)) : Prop := ((MulOk ((one).length : Int) ((other).length : Int) ∧ divisor_of_ok ((one).length : Int) ((other).length : Int) ∧ DivOk (both_rows_e1 one other)) ∧ ((decide ((400 : Int) < ((((one).length : Int) * ((other).length : Int)) / (both_rows_e1 one other)))) = false → (((((one).length : Int) * ((other).length : Int)) / (both_rows_e1 one other)) ≤ 16777216 ∧ (∀ x2 ∈ (irange 0 ((((one).length : Int) * ((other).length : Int)) / (both_rows_e1 one other))), (water_at_ok one x2 ∧ water_at_ok other x2)))))
def both_rows_o (t : ((Option (List Int)))) : Out := .rt (.im ((encO (encT Val.int)) t)) [.no, .no, .no, .no]
theorem both_rows_oo (t : ((Option (List Int)))) (one : (List Int)) (other : (List Int)) : OutOk [.im ((encT Val.int) one), .im ((encT Val.int) other)] (.im ((encO (encT Val.int)) t)) [.im ((encT Val.int) one), .im ((encT Val.int) other)] (both_rows_o t) := by
  exact ⟨rfl, OE.ok (.im (.im .nil))⟩
def R_both_rows : Rel := fun args_ r_ outs_ => ∃ (one : (List Int)) (other : (List Int)), both_rows_ok one other ∧ args_ = [.im ((encT Val.int) one), .im ((encT Val.int) other)] ∧ r_ = .im ((encO (encT Val.int)) (both_rows one other)) ∧ outs_ = [.im ((encT Val.int) one), .im ((encT Val.int) other)]
theorem R_both_rows_of (one : (List Int)) (other : (List Int)) {v_ : ((Option (List Int)))} (h : both_rows_ok one other) (e : both_rows one other = v_) : R_both_rows [.im ((encT Val.int) one), .im ((encT Val.int) other)] (.im ((encO (encT Val.int)) v_)) [.im ((encT Val.int) one), .im ((encT Val.int) other)] := by subst e; exact ⟨one, other, h, rfl, rfl, rfl⟩
set_option maxHeartbeats 2000000 in
theorem ok_both_rows (D : DefAt K mg "both_rows" s_both_rows ["one", "other"]) (m_len : mg "len" = none) (m_tuple : mg "tuple" = none) (m_range : mg "range" = none) (g_MOST : ∃ t, mg "MOST" = some (.int 400 t)) (C_divisor_of : CalOk P w K mg base "divisor_of" ["one", "other"] 1 R_divisor_of) (C_water_at : CalOk P w K mg base "water_at" ["row", "hour"] 1 R_water_at) : CalOk P w K mg base "both_rows" ["one", "other"] 2 R_both_rows := by
  refine D.ok sc_both_rows (by decide) (fun args r outs h => ?_) (fun f_ cdv_ A_ outer_ sh_ H_ E_ hr_ args r outs h => ?_)
  · obtain ⟨one, other, h, rfl, rfl, rfl⟩ := h; exact len_of rfl rfl
  · obtain ⟨one, other, h, rfl, rfl, rfl⟩ := h
    have nd_ := sc_both_rows.nd
    have hu64_ := hu64 hr_; have hu65_ := hu65 hr_
    have main_ : EvC (cxOf CX0 P w K mg base ["one", "other", "many", "hour"] "both_rows" (defScope s_both_rows) f_ cdv_ A_ outer_ sh_ H_ E_).nox [] [defBody s_both_rows] [.im ((encT Val.int) one), .im ((encT Val.int) other), .no, .no] (both_rows_o (both_rows one other)) := (show EvC _ _ _ _ (both_rows_o ((if (decide ((400 : Int) < ((((one).length : Int) * ((other).length : Int)) / (both_rows_e1 one other)))) = true then (none : (Option (List Int))) else (some ((irange 0 ((((one).length : Int) * ((other).length : Int)) / (both_rows_e1 one other))).map (fun x2 => ((both_rows_e3 one x2) + (both_rows_e4 other x2)))))))) from (ec_cons (EvS.to (env2 := [.im ((encT Val.int) one), .im ((encT Val.int) other), .im (Val.int ((((one).length : Int) * ((other).length : Int)) / (both_rows_e1 one other))), .no]) (es_setV (ps_set (i := 2) nd_ rfl (by first | exact .inl rfl | exact .inr rfl) (pe_wp _)) (ev_div h.1.2.2 (ev_mul h.1.1 (ev_lenT m_len (ev_v 0 rfl (pv 0)) (.val _) (.tup _)) (ev_lenT m_len (ev_v 1 rfl (pv 1)) (.val _) (.tup _))) (ev_call (C_divisor_of.pe hr_ (by decide) (by rfl)) (ea_cons (ev_lenT m_len (ev_v 0 rfl (pv 0)) (.val _) (.tup _)) (ea_cons (ev_lenT m_len (ev_v 1 rfl (pv 1)) (.val _) (.tup _)) ea_nil)) (.im (.im .nil)) (R_divisor_of_of ((one).length : Int) ((other).length : Int) h.1.2.1 (rfl : (divisor_of ((one).length : Int) ((other).length : Int)) = (both_rows_e1 one other))))) (Nat.le_of_ble_eq_true rfl) (nm rfl)) rfl) (ec_ifV both_rows_o (t1 := (none : (Option (List Int)))) (t0 := (some ((irange 0 ((((one).length : Int) * ((other).length : Int)) / (both_rows_e1 one other))).map (fun x2 => ((both_rows_e3 one x2) + (both_rows_e4 other x2)))))) (et_gt (ev_v 2 rfl (pv 2)) (ev_g (w := V.int 400) (by rfl) g_MOST.choose_spec ⟨_, rfl⟩ fun _ _ => rep_int _)) (fun hc5 => (EvC.wkR (ec_last (es_ret ev_non) rfl) (.n (.n (.n (.n .nil)))))) (fun hc5 => (ec_nil (EvC.wkR (ec_last (es_ret (ev_tuple m_tuple (EvN.frz (en_lc0 (own := [("hour", 3)]) rfl nd_ (pi_rangeW1 (by rfl) m_range (pa_wp _)) (blkOk_by rfl) (lcM (vs := List.map (·.2) ([("hour", 3)] : List (Str × Nat))) Val.int Val.int (irange 0 ((((one).length : Int) * ((other).length : Int)) / (both_rows_e1 one other))) (fun x2 => ((both_rows_e3 one x2) + (both_rows_e4 other x2))) (fun x2 => (water_at_ok one x2 ∧ water_at_ok other x2)) (src_w1 (ev_v 2 rfl (pv 2)) (h.2 hc5).1) (fun x2 hx6 => (h.2 hc5).2 x2 hx6) fun x2 hx6 ho7 => ⟨_, fun _ _ _ _ _ => (eg_name 3 (pg_name nd_ rfl (by first | exact .inl rfl | exact .inr rfl)) (Nat.le_of_ble_eq_true rfl) (nm rfl)), rfl, fun _ _ _ _ _ => (ev_add (ev_call (C_water_at.pe hr_ (by decide) (by rfl)) (ea_cons (ev_v 0 rfl (pv 0)) (ea_cons (ev_v 3 rfl (pv 3)) ea_nil)) (.im (.im .nil)) (R_water_at_of one x2 ho7.1 (rfl : (water_at one x2) = (both_rows_e3 one x2)))) (ev_call (C_water_at.pe hr_ (by decide) (by rfl)) (ea_cons (ev_v 1 rfl (pv 1)) (ea_cons (ev_v 3 rfl (pv 3)) ea_nil)) (.im (.im .nil)) (R_water_at_of other x2 ho7.2 (rfl : (water_at other x2) = (both_rows_e4 other x2)))))⟩))) (.val _))) rfl) (.n (.n (.n (.n .nil))))))))))
    exact ⟨_, EvC.ss main_, both_rows_oo (both_rows one other) one other⟩
/-! _law_draws -/
abbrev s_law_draws : Stmt := topS 12
theorem sc_law_draws : FnScope ["script", "many", "cells", "cell", "rest", "draws", "k", "at", "once"] ["script", "many"] (defScope s_law_draws) := ⟨rfl, rfl, rfl, by decide +kernel, rfl, by decide +kernel, by decide +kernel⟩
def law_draws_e3 (script : (List Int)) : (List Int) := (if (decide ((((script.map (fun x1 => x1))).length : Int) = (0 : Int))) = true then ((script.map (fun x1 => x1)) ++ [(0 : Int)]) else (script.map (fun x1 => x1)))
def law_draws_e7 (cells : (List Int)) (s : ((List Int) × (List Int))) (x : Int) : (List Int) × (List Int) := (if ((decide (((10 : Int) ^ (18 : Nat)) ≤ (ix cells (x % ((cells).length : Int)) (0 : Int)))) && (decide ((0 : Int) < (ix s.1 (x % ((cells).length : Int)) (0 : Int))))) = true then ((setI s.1 (x % ((cells).length : Int)) ((ix s.1 (x % ((cells).length : Int)) (0 : Int)) / (1000 : Int))), (s.2 ++ [((ix s.1 (x % ((cells).length : Int)) (0 : Int)) % (1000 : Int))])) else (s.1, (s.2 ++ [(((((((((ix cells (x % ((cells).length : Int)) (0 : Int)) * (48271 : Int)) + (x * (69621 : Int))) + (11 : Int)) % (2147483647 : Int)) * (((((ix cells (x % ((cells).length : Int)) (0 : Int)) * (48271 : Int)) + (x * (69621 : Int))) + (11 : Int)) % (2147483647 : Int))) + ((3 : Int) * (((((ix cells (x % ((cells).length : Int)) (0 : Int)) * (48271 : Int)) + (x * (69621 : Int))) + (11 : Int)) % (2147483647 : Int)))) + x) % (1000003 : Int))])))
def law_draws_f5 (cells : (List Int)) (s : (List Int) × (List Int)) (x : Int) : (List Int) × (List Int) := ((law_draws_e7 cells s x).1, (law_draws_e7 cells s x).2)
def law_draws_f5_ok (cells : (List Int)) (s : (List Int) × (List Int)) (x : Int) : Prop := (0 < ((cells).length : Int) ∧ ((IxOk cells (x % ((cells).length : Int)) ∧ ((decide (((10 : Int) ^ (18 : Nat)) ≤ (ix cells (x % ((cells).length : Int)) (0 : Int)))) = true → IxOk s.1 (x % ((cells).length : Int)))) ∧ (((decide (((10 : Int) ^ (18 : Nat)) ≤ (ix cells (x % ((cells).length : Int)) (0 : Int)))) && (decide ((0 : Int) < (ix s.1 (x % ((cells).length : Int)) (0 : Int))))) = true → ((IxOk s.1 (x % ((cells).length : Int)) ∧ (s.2).length < sizeLine) ∧ (IxOk s.1 (x % ((cells).length : Int)) ∧ IxOk s.1 (x % ((cells).length : Int))))) ∧ (((decide (((10 : Int) ^ (18 : Nat)) ≤ (ix cells (x % ((cells).length : Int)) (0 : Int)))) && (decide ((0 : Int) < (ix s.1 (x % ((cells).length : Int)) (0 : Int))))) = false → (IxOk cells (x % ((cells).length : Int)) ∧ (MulOk (((((ix cells (x % ((cells).length : Int)) (0 : Int)) * (48271 : Int)) + (x * (69621 : Int))) + (11 : Int)) % (2147483647 : Int)) (((((ix cells (x % ((cells).length : Int)) (0 : Int)) * (48271 : Int)) + (x * (69621 : Int))) + (11 : Int)) % (2147483647 : Int)) ∧ (s.2).length < sizeLine)))))
def law_draws (script : (List Int)) (many : Int) : ((List Int)) := (((irange 0 many).foldl (law_draws_f5 (law_draws_e3 script)) ((law_draws_e3 script), ([] : List Int))).2).reverse
def law_draws_ok (script : (List Int)) (many : Int) : Prop := (((decide ((((script.map (fun x1 => x1))).length : Int) = (0 : Int))) = true → ((script.map (fun x1 => x1))).length < sizeLine) ∧ foldOk (law_draws_f5 (law_draws_e3 script)) (law_draws_f5_ok (law_draws_e3 script)) ((law_draws_e3 script), ([] : List Int)) (irange 0 many))
def law_draws_o (t : ((List Int))) : Out := .rt (.ow ((encL Val.int) t)) [.no, .no, .no, .no, .no, .no, .no, .no, .no]
theorem law_draws_oo (t : ((List Int))) (script : (List Int)) (many : Int) : OutOk [.im ((encL Val.int) script), .im (Val.int many)] (.ow ((encL Val.int) t)) [.im ((encL Val.int) script), .im (Val.int many)] (law_draws_o t) := by
  exact ⟨rfl, OE.ok (.im (.im .nil))⟩
def R_law_draws : Rel := fun args_ r_ outs_ => ∃ (script : (List Int)) (many : Int), law_draws_ok script many ∧ args_ = [.im ((encL Val.int) script), .im (Val.int many)] ∧ r_ = .ow ((encL Val.int) (law_draws script many)) ∧ outs_ = [.im ((encL Val.int) script), .im (Val.int many)]
theorem R_law_draws_of (script : (List Int)) (many : Int) {v_ : ((List Int))} (h : law_draws_ok script many) (e : law_draws script many = v_) : R_law_draws [.im ((encL Val.int) script), .im (Val.int many)] (.ow ((encL Val.int) v_)) [.im ((encL Val.int) script), .im (Val.int many)] := by subst e; exact ⟨script, many, h, rfl, rfl, rfl⟩
set_option maxHeartbeats 2000000 in
theorem ok_law_draws (D : DefAt K mg "_law_draws" s_law_draws ["script", "many"]) (m_int : mg "int" = none) (m_len : mg "len" = none) (m_list : mg "list" = none) (m_range : mg "range" = none) : CalOk P w K mg base "_law_draws" ["script", "many"] 1 R_law_draws := by
  refine D.ok sc_law_draws (by decide) (fun args r outs h => ?_) (fun f_ cdv_ A_ outer_ sh_ H_ E_ hr_ args r outs h => ?_)
  · obtain ⟨script, many, h, rfl, rfl, rfl⟩ := h; exact len_of rfl rfl
  · obtain ⟨script, many, h, rfl, rfl, rfl⟩ := h
    have nd_ := sc_law_draws.nd
    have hu64_ := hu64 hr_; have hu65_ := hu65 hr_
    have law_draws_f5_b : ∀ (cells : (List Int)) (s : (List Int) × (List Int)) (x : Int), law_draws_f5_ok cells s x → ∃ envt, EvG (cxOf CX0 P w K mg base ["script", "many", "cells", "cell", "rest", "draws", "k", "at", "once"] "_law_draws" (defScope s_law_draws) f_ cdv_ A_ outer_ sh_ H_ E_).nox [] (forTg (stAt (defBody s_law_draws) 4)) (Val.int x) [.no, .no, .im ((encL Val.int) cells), .no, .ow ((encL Val.int) s.1), .ow ((encL Val.int) s.2), .no, .no, .no] envt ∧ EvSs (cxOf CX0 P w K mg base ["script", "many", "cells", "cell", "rest", "draws", "k", "at", "once"] "_law_draws" (defScope s_law_draws) f_ cdv_ A_ outer_ sh_ H_ E_).nox [] (loopBody (stAt (defBody s_law_draws) 4)) envt (.nx ((fun so4 : (List Int) × (List Int) => (match so4 with | (so4_0, so4_1) => [.no, .no, .im ((encL Val.int) cells), .no, .ow ((encL Val.int) so4_0), .ow ((encL Val.int) so4_1), .no, .no, .no] : List Sl)) ((law_draws_f5 cells) s x))) := fun cells s x h => ⟨_, (eg_name 6 (pg_name nd_ rfl (by first | exact .inl rfl | exact .inr rfl)) (Nat.le_of_ble_eq_true rfl) (nm rfl)), EvSs.wkN (ess_cons (EvS.to (env2 := [.no, .no, .im ((encL Val.int) cells), .no, .ow ((encL Val.int) s.1), .ow ((encL Val.int) s.2), .im (Val.int x), .im (Val.int (x % ((cells).length : Int))), .no]) (es_setV (ps_set (i := 7) nd_ rfl (by first | exact .inl rfl | exact .inr rfl) (pe_wp _)) (ev_mod h.1 (ev_v 6 rfl (pv 6)) (ev_lenT m_len (ev_v 2 rfl (pv 2)) (.val _) (.lst _))) (Nat.le_of_ble_eq_true rfl) (nm rfl)) rfl) (ess_cons (EvS.to (env2 := [.no, .no, .im ((encL Val.int) cells), .no, .ow ((encL Val.int) (law_draws_e7 cells s x).1), .ow ((encL Val.int) (law_draws_e7 cells s x).2), .no, .no, .no]) (es_ifJ (fun j6 : (List Int) × (List Int) => (match j6 with | (j6_0, j6_1) => [.no, .no, .im ((encL Val.int) cells), .no, .ow ((encL Val.int) j6_0), .ow ((encL Val.int) j6_1), .no, .no, .no] : List Sl)) (t1 := ((setI s.1 (x % ((cells).length : Int)) ((ix s.1 (x % ((cells).length : Int)) (0 : Int)) / (1000 : Int))), (s.2 ++ [((ix s.1 (x % ((cells).length : Int)) (0 : Int)) % (1000 : Int))]))) (t0 := (s.1, (s.2 ++ [(((((((((ix cells (x % ((cells).length : Int)) (0 : Int)) * (48271 : Int)) + (x * (69621 : Int))) + (11 : Int)) % (2147483647 : Int)) * (((((ix cells (x % ((cells).length : Int)) (0 : Int)) * (48271 : Int)) + (x * (69621 : Int))) + (11 : Int)) % (2147483647 : Int))) + ((3 : Int) * (((((ix cells (x % ((cells).length : Int)) (0 : Int)) * (48271 : Int)) + (x * (69621 : Int))) + (11 : Int)) % (2147483647 : Int)))) + x) % (1000003 : Int))]))) (EvW.t (ew_and (et_ge (ev_ixT (f := Val.int) (0 : Int) h.2.1.1 (ev_v 2 rfl (pv 2)) (ev_v 7 rfl (pv 7)) (.val _) (.lst _)) (ev_pow (k := 18) ⟨by decide, by decide⟩ ev_int ev_int)) (fun hb9 => (ew_and1 (et_gt (ev_ixT (f := Val.int) (0 : Int) (h.2.1.2 hb9) (ev_o 4 rfl (pv 4)) (ev_v 7 rfl (pv 7)) (.own rfl) (.lst _)) ev_int))))) (fun hc8 => EvSs.wkN (ess_cons (EvS.to (env2 := [.no, .no, .im ((encL Val.int) cells), .no, .ow ((encL Val.int) s.1), .ow ((encL Val.int) (s.2 ++ [((ix s.1 (x % ((cells).length : Int)) (0 : Int)) % (1000 : Int))])), .im (Val.int x), .im (Val.int (x % ((cells).length : Int))), .no]) (es_expr (ev_appendT (f := Val.int) 5 (ev_o 5 rfl (pv 5)) (ev_mod (by decide +kernel) (ev_int1 m_int (ev_ixT (f := Val.int) (0 : Int) (h.2.2.1 hc8).1.1 (ev_o 4 rfl (pv 4)) (ev_v 7 rfl (pv 7)) (.own rfl) (.lst _))) ev_int) rfl rfl (h.2.2.1 hc8).1.2)) rfl) (ess_cons (EvS.to (env2 := [.no, .no, .im ((encL Val.int) cells), .no, .ow ((encL Val.int) (setI s.1 (x % ((cells).length : Int)) ((ix s.1 (x % ((cells).length : Int)) (0 : Int)) / (1000 : Int)))), .ow ((encL Val.int) (s.2 ++ [((ix s.1 (x % ((cells).length : Int)) (0 : Int)) % (1000 : Int))])), .im (Val.int x), .im (Val.int (x % ((cells).length : Int))), .no]) (es_setIxT (f := Val.int) 4 (ps_asg (pe_wp _) (pg_sub (pe_wp _) (pe_wp _) set_list)) (ev_div ⟨by decide +kernel, by decide +kernel⟩ (ev_ixT (f := Val.int) (0 : Int) (h.2.2.1 hc8).2.1 (ev_o 4 rfl (pv 4)) (ev_v 7 rfl (pv 7)) (.own rfl) (.lst _)) ev_int) (ev_o 4 rfl (pv 4)) (ev_v 7 rfl (pv 7)) rfl (h.2.2.1 hc8).2.2) rfl) ess_nil)) (.n (.n (.s (.n (.s (.s (.n (.n (.n .nil)))))))))) (fun hc8 => EvSs.wkN (ess_cons (EvS.to (env2 := [.no, .no, .im ((encL Val.int) cells), .no, .ow ((encL Val.int) s.1), .ow ((encL Val.int) s.2), .im (Val.int x), .im (Val.int (x % ((cells).length : Int))), .im (Val.int (((((ix cells (x % ((cells).length : Int)) (0 : Int)) * (48271 : Int)) + (x * (69621 : Int))) + (11 : Int)) % (2147483647 : Int)))]) (es_setV (ps_set (i := 8) nd_ rfl (by first | exact .inl rfl | exact .inr rfl) (pe_wp _)) (ev_mod (by decide +kernel) (ev_int1 m_int (ev_add (ev_add (ev_mul (.inl (.inr ⟨by decide +kernel, by decide +kernel⟩)) (ev_ixT (f := Val.int) (0 : Int) (h.2.2.2 hc8).1 (ev_v 2 rfl (pv 2)) (ev_v 7 rfl (pv 7)) (.val _) (.lst _)) ev_int) (ev_mul (.inl (.inr ⟨by decide +kernel, by decide +kernel⟩)) (ev_v 6 rfl (pv 6)) ev_int)) ev_int)) ev_int) (Nat.le_of_ble_eq_true rfl) (nm rfl)) rfl) (ess_cons (EvS.to (env2 := [.no, .no, .im ((encL Val.int) cells), .no, .ow ((encL Val.int) s.1), .ow ((encL Val.int) (s.2 ++ [(((((((((ix cells (x % ((cells).length : Int)) (0 : Int)) * (48271 : Int)) + (x * (69621 : Int))) + (11 : Int)) % (2147483647 : Int)) * (((((ix cells (x % ((cells).length : Int)) (0 : Int)) * (48271 : Int)) + (x * (69621 : Int))) + (11 : Int)) % (2147483647 : Int))) + ((3 : Int) * (((((ix cells (x % ((cells).length : Int)) (0 : Int)) * (48271 : Int)) + (x * (69621 : Int))) + (11 : Int)) % (2147483647 : Int)))) + x) % (1000003 : Int))])), .im (Val.int x), .im (Val.int (x % ((cells).length : Int))), .im (Val.int (((((ix cells (x % ((cells).length : Int)) (0 : Int)) * (48271 : Int)) + (x * (69621 : Int))) + (11 : Int)) % (2147483647 : Int)))]) (es_expr (ev_appendT (f := Val.int) 5 (ev_o 5 rfl (pv 5)) (ev_mod (by decide +kernel) (ev_int1 m_int (ev_add (ev_add (ev_mul (h.2.2.2 hc8).2.1 (ev_v 8 rfl (pv 8)) (ev_v 8 rfl (pv 8))) (ev_mul (.inl (.inl ⟨by decide +kernel, by decide +kernel⟩)) ev_int (ev_v 8 rfl (pv 8)))) (ev_v 6 rfl (pv 6)))) ev_int) rfl rfl (h.2.2.2 hc8).2.2)) rfl) ess_nil)) (.n (.n (.s (.n (.s (.s (.n (.n (.n .nil))))))))))) ((show ∀ j6 : (List Int) × (List Int), (fun j6 : (List Int) × (List Int) => (match j6 with | (j6_0, j6_1) => [.no, .no, .im ((encL Val.int) cells), .no, .ow ((encL Val.int) j6_0), .ow ((encL Val.int) j6_1), .no, .no, .no] : List Sl)) j6 = ([.no, .no, .im ((encL Val.int) cells), .no, .ow ((encL Val.int) j6.1), .ow ((encL Val.int) j6.2), .no, .no, .no] : List Sl) from fun (j6_0, j6_1) => rfl) _)) ess_nil)) (.n (.n (.s (.n (.s (.s (.n (.n (.n .nil)))))))))⟩
    have main_ : EvC (cxOf CX0 P w K mg base ["script", "many", "cells", "cell", "rest", "draws", "k", "at", "once"] "_law_draws" (defScope s_law_draws) f_ cdv_ A_ outer_ sh_ H_ E_).nox [] [defBody s_law_draws] [.im ((encL Val.int) script), .im (Val.int many), .no, .no, .no, .no, .no, .no, .no] (law_draws_o (law_draws script many)) := (show EvC _ _ _ _ (law_draws_o ((((irange 0 many).foldl (law_draws_f5 (law_draws_e3 script)) ((law_draws_e3 script), ([] : List Int))).2).reverse)) from (ec_cons (EvS.to (env2 := [.im ((encL Val.int) script), .im (Val.int many), .ow ((encL Val.int) (script.map (fun x1 => x1))), .no, .no, .no, .no, .no, .no]) (es_setN (es_lc0 (M := []) (i := 2) (own := [("cell", 3)]) rfl nd_ rfl rfl (sw_true rfl rfl rfl (by decide +kernel)) (pi_list (pe_wp _)) (blkOk_by rfl)) (lcM (vs := List.map (·.2) ([("cell", 3)] : List (Str × Nat))) Val.int Val.int script (fun x1 => x1) (fun x1 => True) (src_lst (ev_v 0 rfl (pv 0))) (fun x1 hx11 => trivial) fun x1 hx11 ho12 => ⟨_, fun _ _ _ _ _ => (eg_name 3 (pg_name nd_ rfl (by first | exact .inl rfl | exact .inr rfl)) (Nat.le_of_ble_eq_true rfl) (nm rfl)), rfl, fun _ _ _ _ _ => (ev_int1 m_int (ev_v 3 rfl (pv 3)))⟩) (Nat.le_of_ble_eq_true rfl) (nm rfl)) rfl) (ec_cons (EvS.to (env2 := [.no, .im (Val.int many), .ow ((encL Val.int) (law_draws_e3 script)), .no, .no, .no, .no, .no, .no]) (es_ifJ (fun j2 : (List Int) => [.no, .im (Val.int many), .ow ((encL Val.int) j2), .no, .no, .no, .no, .no, .no]) (t1 := ((script.map (fun x1 => x1)) ++ [(0 : Int)])) (t0 := (script.map (fun x1 => x1))) (et_eqT lw_int (by decide) hu64_ (ev_lenT m_len (ev_o 2 rfl (pv 2)) (.own rfl) (.lst _)) ev_int (.val _) (.val _)) (fun hc14 => EvSs.wkN (ess_cons (EvS.to (env2 := [.im ((encL Val.int) script), .im (Val.int many), .ow ((encL Val.int) ((script.map (fun x1 => x1)) ++ [(0 : Int)])), .no, .no, .no, .no, .no, .no]) (es_expr (ev_appendT (f := Val.int) 2 (ev_o 2 rfl (pv 2)) ev_int rfl rfl (h.1 hc14))) rfl) ess_nil) (.n (.s (.s (.n (.s (.s (.n (.n (.n .nil)))))))))) (fun hc14 => EvSs.wkN ess_nil (.n (.s (.s (.n (.s (.s (.n (.n (.n .nil))))))))))) rfl) (EvC.frz 2 rfl (ec_cons (EvS.to (env2 := [.no, .im (Val.int many), .im ((encL Val.int) (law_draws_e3 script)), .no, .ow ((encL Val.int) (law_draws_e3 script)), .no, .no, .no, .no]) (es_setO (ps_set (i := 4) nd_ rfl (by first | exact .inl rfl | exact .inr rfl) (pe_wp _)) (en_list m_list (ev_v 2 rfl (pv 2)) (.val _) (.lst _)) (Nat.le_of_ble_eq_true rfl) (nm rfl)) rfl) (ec_cons (EvS.to (env2 := [.no, .im (Val.int many), .im ((encL Val.int) (law_draws_e3 script)), .no, .ow ((encL Val.int) (law_draws_e3 script)), .ow ((encL Val.int) ([] : List Int)), .no, .no, .no]) (es_setO (ps_set (i := 5) nd_ rfl (by first | exact .inl rfl | exact .inr rfl) (pe_wp _)) (en_lst (xs := []) (Nat.le_of_ble_eq_true rfl) ea_nil) (Nat.le_of_ble_eq_true rfl) (nm rfl)) rfl) (ec_cons (EvS.to (env2 := [.no, .no, .im ((encL Val.int) (law_draws_e3 script)), .no, .ow ((encL Val.int) ((irange 0 many).foldl (law_draws_f5 (law_draws_e3 script)) ((law_draws_e3 script), ([] : List Int))).1), .ow ((encL Val.int) ((irange 0 many).foldl (law_draws_f5 (law_draws_e3 script)) ((law_draws_e3 script), ([] : List Int))).2), .no, .no, .no]) (es_forFW1 (fun so4 : (List Int) × (List Int) => (match so4 with | (so4_0, so4_1) => [.no, .no, .im ((encL Val.int) (law_draws_e3 script)), .no, .ow ((encL Val.int) so4_0), .ow ((encL Val.int) so4_1), .no, .no, .no] : List Sl)) (law_draws_f5 (law_draws_e3 script)) (law_draws_f5_ok (law_draws_e3 script)) many ((law_draws_e3 script), ([] : List Int)) rfl PassesOwn.never m_range (Ev.wk (ev_v 1 rfl (pv 1)) (.n (.n (.s (.n (.s (.s (.n (.n (.n .nil)))))))))) h.2 (fun st_ xt_ hx_ ho_ => law_draws_f5_b (law_draws_e3 script) st_ xt_ ho_)) ((show ∀ so4 : (List Int) × (List Int), (fun so4 : (List Int) × (List Int) => (match so4 with | (so4_0, so4_1) => [.no, .no, .im ((encL Val.int) (law_draws_e3 script)), .no, .ow ((encL Val.int) so4_0), .ow ((encL Val.int) so4_1), .no, .no, .no] : List Sl)) so4 = ([.no, .no, .im ((encL Val.int) (law_draws_e3 script)), .no, .ow ((encL Val.int) so4.1), .ow ((encL Val.int) so4.2), .no, .no, .no] : List Sl) from fun (so4_0, so4_1) => rfl) _)) (ec_cons (EvS.to (env2 := [.no, .no, .im ((encL Val.int) (law_draws_e3 script)), .no, .ow ((encL Val.int) ((irange 0 many).foldl (law_draws_f5 (law_draws_e3 script)) ((law_draws_e3 script), ([] : List Int))).1), .ow ((encL Val.int) (((irange 0 many).foldl (law_draws_f5 (law_draws_e3 script)) ((law_draws_e3 script), ([] : List Int))).2).reverse), .no, .no, .no]) (es_expr (ev_reverseT (f := Val.int) 5 (ev_o 5 rfl (pv 5)) rfl)) rfl) (EvC.wkR (ec_last (es_retO (ev_o 5 rfl (pv 5)) rfl) rfl) (.n (.n (.n (.n (.n (.n (.n (.n (.n .nil))))))))))))))))))
    exact ⟨_, EvC.ss main_, law_draws_oo (law_draws script many) script many⟩
/-! _law_take -/
abbrev s_law_take : Stmt := topS 13
theorem sc_law_take : FnScope ["draws", "many"] ["draws", "many"] (defScope s_law_take) := ⟨rfl, rfl, rfl, by decide +kernel, rfl, by decide +kernel, by decide +kernel⟩
def law_take (draws : (List Int)) (many : Int) : (Int × (List Int)) := (if (decide (((draws).length : Int) = (0 : Int))) = true then ((0 : Int), draws) else ((((draws).getLastD (0 : Int)) % many), (draws).dropLast))
def law_take_ok (draws : (List Int)) (many : Int) : Prop := ((decide (((draws).length : Int) = (0 : Int))) = false → (draws ≠ [] ∧ 0 < many))
def law_take_o : (Int × (List Int)) → Out
  | (t_0, t_1) => .rt (.im (Val.int t_0)) [.ow ((encL Val.int) t_1), .no]
theorem law_take_oo (t : (Int × (List Int))) (draws : (List Int)) (many : Int) : OutOk [.mu ((encL Val.int) draws), .im (Val.int many)] (.im (Val.int t.1)) [.mu ((encL Val.int) t.2), .im (Val.int many)] (law_take_o t) := by
  obtain ⟨t_0, t_1⟩ := t; exact ⟨rfl, OE.ok (.mu (.im .nil))⟩
def R_law_take : Rel := fun args_ r_ outs_ => ∃ (draws : (List Int)) (many : Int), law_take_ok draws many ∧ args_ = [.mu ((encL Val.int) draws), .im (Val.int many)] ∧ r_ = .im (Val.int (law_take draws many).1) ∧ outs_ = [.mu ((encL Val.int) (law_take draws many).2), .im (Val.int many)]
theorem R_law_take_of (draws : (List Int)) (many : Int) {v_ : (Int × (List Int))} (h : law_take_ok draws many) (e : law_take draws many = v_) : R_law_take [.mu ((encL Val.int) draws), .im (Val.int many)] (.im (Val.int v_.1)) [.mu ((encL Val.int) v_.2), .im (Val.int many)] := by subst e; exact ⟨draws, many, h, rfl, rfl, rfl⟩
set_option maxHeartbeats 2000000 in
theorem ok_law_take (D : DefAt K mg "_law_take" s_law_take ["draws", "many"]) (m_len : mg "len" = none) (m_int : mg "int" = none) : CalOk P w K mg base "_law_take" ["draws", "many"] 1 R_law_take := by
  refine D.ok sc_law_take (by decide) (fun args r outs h => ?_) (fun f_ cdv_ A_ outer_ sh_ H_ E_ hr_ args r outs h => ?_)
  · obtain ⟨draws, many, h, rfl, rfl, rfl⟩ := h; exact len_of rfl rfl
  · obtain ⟨draws, many, h, rfl, rfl, rfl⟩ := h
    have nd_ := sc_law_take.nd
    have hu64_ := hu64 hr_; have hu65_ := hu65 hr_
    have main_ : EvC (cxOf CX0 P w K mg base ["draws", "many"] "_law_take" (defScope s_law_take) f_ cdv_ A_ outer_ sh_ H_ E_).nox [0] [defBody s_law_take] [.ow ((encL Val.int) draws), .im (Val.int many)] (law_take_o (law_take draws many)) := (show EvC _ _ _ _ (law_take_o ((if (decide (((draws).length : Int) = (0 : Int))) = true then ((0 : Int), draws) else ((((draws).getLastD (0 : Int)) % many), (draws).dropLast)))) from (ec_ifV law_take_o (t1 := ((0 : Int), draws)) (t0 := ((((draws).getLastD (0 : Int)) % many), (draws).dropLast)) (et_eqT lw_int (by decide) hu64_ (ev_lenT m_len (ev_o 0 rfl (pv 0)) (.own rfl) (.lst _)) ev_int (.val _) (.val _)) (fun hc1 => (EvC.wkR (ec_last (es_ret ev_int) rfl) (.s (.n .nil)))) (fun hc1 => (ec_nil (EvC.wkR (ec_last (es_ret (ev_mod (h hc1).2 (ev_int1 m_int (ev_popT (f := Val.int) 0 (0 : Int) (ev_o 0 rfl (pv 0)) rfl (h hc1).1)) (ev_v 1 rfl (pv 1)))) rfl) (.s (.n .nil)))))))
    exact ⟨_, EvC.ss main_, law_take_oo (law_take draws many) draws many⟩
/-! _law_size -/
abbrev s_law_size : Stmt := topS 15
theorem sc_law_size : FnScope ["draws", "script", "kind", "number"] ["draws", "script"] (defScope s_law_size) := ⟨rfl, rfl, rfl, by decide +kernel, rfl, by decide +kernel, by decide +kernel⟩
def law_size_e1 (draws : (List Int)) : Int × (List Int) := (law_take draws (4 : Int))
def law_size_e2 (draws : (List Int)) : Int × (List Int) := (law_take (law_size_e1 draws).2 (1000 : Int))
def law_size_e3 (draws : (List Int)) : Int × (List Int) := (law_take (law_size_e2 draws).2 (1000 : Int))
def law_size_e5 (draws : (List Int)) : (List Int) × Int := (if (decide ((law_size_e1 draws).1 = (1 : Int))) = true then ((law_size_e3 draws).2, ((law_size_e2 draws).1 + (((1 : Int) + (law_size_e3 draws).1) * ((10 : Int) ^ (15 : Nat))))) else ((law_size_e2 draws).2, (law_size_e2 draws).1))
def law_size_e6 (draws : (List Int)) (script : (List Int)) : Int × (List Int) := (law_take (law_size_e5 draws).1 ((script).length : Int))
def law_size_e8 (draws : (List Int)) (script : (List Int)) : (List Int) × Int := (if ((decide ((law_size_e1 draws).1 = (2 : Int))) && (decide ((0 : Int) < ((script).length : Int)))) = true then ((law_size_e6 draws script).2, ((law_size_e5 draws).2 + ((((ix script (law_size_e6 draws script).1 (0 : Int))).natAbs : Int) % ((10 : Int) ^ (60 : Nat))))) else ((law_size_e5 draws).1, (law_size_e5 draws).2))
def law_size_e9 (draws : (List Int)) (script : (List Int)) : Int × (List Int) := (law_take (law_size_e8 draws script).1 (1000 : Int))
def law_size_e11 (draws : (List Int)) (script : (List Int)) : (List Int) × Int := (if (decide ((law_size_e1 draws).1 = (3 : Int))) = true then ((law_size_e9 draws script).2, (((law_size_e8 draws script).2 * (1000 : Int)) + (law_size_e9 draws script).1)) else ((law_size_e8 draws script).1, (law_size_e8 draws script).2))
def law_size (draws : (List Int)) (script : (List Int)) : (Int × (List Int)) := ((law_size_e11 draws script).2, (law_size_e11 draws script).1)
def law_size_ok (draws : (List Int)) (script : (List Int)) : Prop := (law_take_ok draws (4 : Int) ∧ (law_take_ok (law_size_e1 draws).2 (1000 : Int) ∧ (((decide ((law_size_e1 draws).1 = (1 : Int))) = true → law_take_ok (law_size_e2 draws).2 (1000 : Int)) ∧ ((((decide ((law_size_e1 draws).1 = (2 : Int))) && (decide ((0 : Int) < ((script).length : Int)))) = true → (law_take_ok (law_size_e5 draws).1 ((script).length : Int) ∧ IxOk script (law_size_e6 draws script).1)) ∧ ((decide ((law_size_e1 draws).1 = (3 : Int))) = true → law_take_ok (law_size_e8 draws script).1 (1000 : Int))))))
def law_size_o : (Int × (List Int)) → Out
  | (t_0, t_1) => .rt (.im (Val.int t_0)) [.ow ((encL Val.int) t_1), .no, .no, .no]
theorem law_size_oo (t : (Int × (List Int))) (draws : (List Int)) (script : (List Int)) : OutOk [.mu ((encL Val.int) draws), .im ((encL Val.int) script)] (.im (Val.int t.1)) [.mu ((encL Val.int) t.2), .im ((encL Val.int) script)] (law_size_o t) := by
  obtain ⟨t_0, t_1⟩ := t; exact ⟨rfl, OE.ok (.mu (.im .nil))⟩
def R_law_size : Rel := fun args_ r_ outs_ => ∃ (draws : (List Int)) (script : (List Int)), law_size_ok draws script ∧ args_ = [.mu ((encL Val.int) draws), .im ((encL Val.int) script)] ∧ r_ = .im (Val.int (law_size draws script).1) ∧ outs_ = [.mu ((encL Val.int) (law_size draws script).2), .im ((encL Val.int) script)]
theorem R_law_size_of (draws : (List Int)) (script : (List Int)) {v_ : (Int × (List Int))} (h : law_size_ok draws script) (e : law_size draws script = v_) : R_law_size [.mu ((encL Val.int) draws), .im ((encL Val.int) script)] (.im (Val.int v_.1)) [.mu ((encL Val.int) v_.2), .im ((encL Val.int) script)] := by subst e; exact ⟨draws, script, h, rfl, rfl, rfl⟩
set_option maxHeartbeats 2000000 in
theorem ok_law_size (D : DefAt K mg "_law_size" s_law_size ["draws", "script"]) (m_len : mg "len" = none) (m_int : mg "int" = none) (m_abs : mg "abs" = none) (C_law_take : CalOk P w K mg base "_law_take" ["draws", "many"] 1 R_law_take) : CalOk P w K mg base "_law_size" ["draws", "script"] 2 R_law_size := by
  refine D.ok sc_law_size (by decide) (fun args r outs h => ?_) (fun f_ cdv_ A_ outer_ sh_ H_ E_ hr_ args r outs h => ?_)
  · obtain ⟨draws, script, h, rfl, rfl, rfl⟩ := h; exact len_of rfl rfl
  · obtain ⟨draws, script, h, rfl, rfl, rfl⟩ := h
    have nd_ := sc_law_size.nd
    have hu64_ := hu64 hr_; have hu65_ := hu65 hr_
    have main_ : EvC (cxOf CX0 P w K mg base ["draws", "script", "kind", "number"] "_law_size" (defScope s_law_size) f_ cdv_ A_ outer_ sh_ H_ E_).nox [0] [defBody s_law_size] [.ow ((encL Val.int) draws), .im ((encL Val.int) script), .no, .no] (law_size_o (law_size draws script)) := (show EvC _ _ _ _ (law_size_o (((law_size_e11 draws script).2, (law_size_e11 draws script).1))) from (ec_cons (EvS.to (env2 := [.ow ((encL Val.int) (law_size_e1 draws).2), .im ((encL Val.int) script), .im (Val.int (law_size_e1 draws).1), .no]) (es_setV (ps_set (i := 2) nd_ rfl (by first | exact .inl rfl | exact .inr rfl) (pe_wp _)) (ev_call (C_law_take.pe hr_ (by decide) (by rfl)) (ea_cons (ev_o 0 rfl (pv 0)) (ea_cons ev_int ea_nil)) (.mu rfl (by simp) (.im .nil)) (R_law_take_of draws (4 : Int) h.1 (rfl : (law_take draws (4 : Int)) = (law_size_e1 draws)))) (Nat.le_of_ble_eq_true rfl) (nm rfl)) rfl) (ec_cons (EvS.to (env2 := [.ow ((encL Val.int) (law_size_e2 draws).2), .im ((encL Val.int) script), .im (Val.int (law_size_e1 draws).1), .im (Val.int (law_size_e2 draws).1)]) (es_setV (ps_set (i := 3) nd_ rfl (by first | exact .inl rfl | exact .inr rfl) (pe_wp _)) (ev_call (C_law_take.pe hr_ (by decide) (by rfl)) (ea_cons (ev_o 0 rfl (pv 0)) (ea_cons ev_int ea_nil)) (.mu rfl (by simp) (.im .nil)) (R_law_take_of (law_size_e1 draws).2 (1000 : Int) h.2.1 (rfl : (law_take (law_size_e1 draws).2 (1000 : Int)) = (law_size_e2 draws)))) (Nat.le_of_ble_eq_true rfl) (nm rfl)) rfl) (ec_cons (EvS.to (env2 := [.ow ((encL Val.int) (law_size_e5 draws).1), .im ((encL Val.int) script), .im (Val.int (law_size_e1 draws).1), .im (Val.int (law_size_e5 draws).2)]) (es_ifJ (fun j4 : (List Int) × Int => (match j4 with | (j4_0, j4_1) => [.ow ((encL Val.int) j4_0), .im ((encL Val.int) script), .im (Val.int (law_size_e1 draws).1), .im (Val.int j4_1)] : List Sl)) (t1 := ((law_size_e3 draws).2, ((law_size_e2 draws).1 + (((1 : Int) + (law_size_e3 draws).1) * ((10 : Int) ^ (15 : Nat)))))) (t0 := ((law_size_e2 draws).2, (law_size_e2 draws).1)) (et_eqT lw_int (by decide) hu64_ (ev_v 2 rfl (pv 2)) ev_int (.val _) (.val _)) (fun hc12 => EvSs.wkN (ess_cons (EvS.to (env2 := [.ow ((encL Val.int) (law_size_e3 draws).2), .im ((encL Val.int) script), .im (Val.int (law_size_e1 draws).1), .im (Val.int ((law_size_e2 draws).1 + (((1 : Int) + (law_size_e3 draws).1) * ((10 : Int) ^ (15 : Nat)))))]) (es_setV (ps_set (i := 3) nd_ rfl (by first | exact .inl rfl | exact .inr rfl) (pe_wp _)) (ev_add (ev_v 3 rfl (pv 3)) (ev_mul (.inl (.inr ⟨by decide +kernel, by decide +kernel⟩)) (ev_add ev_int (ev_call (C_law_take.pe hr_ (by decide) (by rfl)) (ea_cons (ev_o 0 rfl (pv 0)) (ea_cons ev_int ea_nil)) (.mu rfl (by simp) (.im .nil)) (R_law_take_of (law_size_e2 draws).2 (1000 : Int) (h.2.2.1 hc12) (rfl : (law_take (law_size_e2 draws).2 (1000 : Int)) = (law_size_e3 draws))))) (ev_pow (k := 15) ⟨by decide, by decide⟩ ev_int ev_int))) (Nat.le_of_ble_eq_true rfl) (nm rfl)) rfl) ess_nil) (.s (.s (.s (.s .nil))))) (fun hc12 => EvSs.wkN ess_nil (.s (.s (.s (.s .nil)))))) ((show ∀ j4 : (List Int) × Int, (fun j4 : (List Int) × Int => (match j4 with | (j4_0, j4_1) => [.ow ((encL Val.int) j4_0), .im ((encL Val.int) script), .im (Val.int (law_size_e1 draws).1), .im (Val.int j4_1)] : List Sl)) j4 = ([.ow ((encL Val.int) j4.1), .im ((encL Val.int) script), .im (Val.int (law_size_e1 draws).1), .im (Val.int j4.2)] : List Sl) from fun (j4_0, j4_1) => rfl) _)) (ec_cons (EvS.to (env2 := [.ow ((encL Val.int) (law_size_e8 draws script).1), .no, .im (Val.int (law_size_e1 draws).1), .im (Val.int (law_size_e8 draws script).2)]) (es_ifJ (fun j7 : (List Int) × Int => (match j7 with | (j7_0, j7_1) => [.ow ((encL Val.int) j7_0), .no, .im (Val.int (law_size_e1 draws).1), .im (Val.int j7_1)] : List Sl)) (t1 := ((law_size_e6 draws script).2, ((law_size_e5 draws).2 + ((((ix script (law_size_e6 draws script).1 (0 : Int))).natAbs : Int) % ((10 : Int) ^ (60 : Nat)))))) (t0 := ((law_size_e5 draws).1, (law_size_e5 draws).2)) (EvW.t (ew_and (et_eqT lw_int (by decide) hu64_ (ev_v 2 rfl (pv 2)) ev_int (.val _) (.val _)) (fun hb14 => (ew_and1 (et_gt (ev_lenT m_len (ev_v 1 rfl (pv 1)) (.val _) (.lst _)) ev_int))))) (fun hc13 => EvSs.wkN (ess_cons (EvS.to (env2 := [.ow ((encL Val.int) (law_size_e6 draws script).2), .im ((encL Val.int) script), .im (Val.int (law_size_e1 draws).1), .im (Val.int ((law_size_e5 draws).2 + ((((ix script (law_size_e6 draws script).1 (0 : Int))).natAbs : Int) % ((10 : Int) ^ (60 : Nat)))))]) (es_setV (ps_set (i := 3) nd_ rfl (by first | exact .inl rfl | exact .inr rfl) (pe_wp _)) (ev_add (ev_v 3 rfl (pv 3)) (ev_mod (by decide +kernel) (ev_int1 m_int (ev_abs m_abs (ev_int1 m_int (ev_ixT (f := Val.int) (0 : Int) (h.2.2.2.1 hc13).2 (ev_v 1 rfl (pv 1)) (ev_call (C_law_take.pe hr_ (by decide) (by rfl)) (ea_cons (ev_o 0 rfl (pv 0)) (ea_cons (ev_lenT m_len (ev_v 1 rfl (pv 1)) (.val _) (.lst _)) ea_nil)) (.mu rfl (by simp) (.im .nil)) (R_law_take_of (law_size_e5 draws).1 ((script).length : Int) (h.2.2.2.1 hc13).1 (rfl : (law_take (law_size_e5 draws).1 ((script).length : Int)) = (law_size_e6 draws script)))) (.val _) (.lst _))))) (ev_pow (k := 60) ⟨by decide, by decide⟩ ev_int ev_int))) (Nat.le_of_ble_eq_true rfl) (nm rfl)) rfl) ess_nil) (.s (.n (.s (.s .nil))))) (fun hc13 => EvSs.wkN ess_nil (.s (.n (.s (.s .nil)))))) ((show ∀ j7 : (List Int) × Int, (fun j7 : (List Int) × Int => (match j7 with | (j7_0, j7_1) => [.ow ((encL Val.int) j7_0), .no, .im (Val.int (law_size_e1 draws).1), .im (Val.int j7_1)] : List Sl)) j7 = ([.ow ((encL Val.int) j7.1), .no, .im (Val.int (law_size_e1 draws).1), .im (Val.int j7.2)] : List Sl) from fun (j7_0, j7_1) => rfl) _)) (ec_cons (EvS.to (env2 := [.ow ((encL Val.int) (law_size_e11 draws script).1), .no, .no, .im (Val.int (law_size_e11 draws script).2)]) (es_ifJ (fun j10 : (List Int) × Int => (match j10 with | (j10_0, j10_1) => [.ow ((encL Val.int) j10_0), .no, .no, .im (Val.int j10_1)] : List Sl)) (t1 := ((law_size_e9 draws script).2, (((law_size_e8 draws script).2 * (1000 : Int)) + (law_size_e9 draws script).1))) (t0 := ((law_size_e8 draws script).1, (law_size_e8 draws script).2)) (et_eqT lw_int (by decide) hu64_ (ev_v 2 rfl (pv 2)) ev_int (.val _) (.val _)) (fun hc16 => EvSs.wkN (ess_cons (EvS.to (env2 := [.ow ((encL Val.int) (law_size_e9 draws script).2), .no, .im (Val.int (law_size_e1 draws).1), .im (Val.int (((law_size_e8 draws script).2 * (1000 : Int)) + (law_size_e9 draws script).1))]) (es_setV (ps_set (i := 3) nd_ rfl (by first | exact .inl rfl | exact .inr rfl) (pe_wp _)) (ev_add (ev_mul (.inl (.inr ⟨by decide +kernel, by decide +kernel⟩)) (ev_v 3 rfl (pv 3)) ev_int) (ev_call (C_law_take.pe hr_ (by decide) (by rfl)) (ea_cons (ev_o 0 rfl (pv 0)) (ea_cons ev_int ea_nil)) (.mu rfl (by simp) (.im .nil)) (R_law_take_of (law_size_e8 draws script).1 (1000 : Int) (h.2.2.2.2 hc16) (rfl : (law_take (law_size_e8 draws script).1 (1000 : Int)) = (law_size_e9 draws script))))) (Nat.le_of_ble_eq_true rfl) (nm rfl)) rfl) ess_nil) (.s (.n (.n (.s .nil))))) (fun hc16 => EvSs.wkN ess_nil (.s (.n (.n (.s .nil)))))) ((show ∀ j10 : (List Int) × Int, (fun j10 : (List Int) × Int => (match j10 with | (j10_0, j10_1) => [.ow ((encL Val.int) j10_0), .no, .no, .im (Val.int j10_1)] : List Sl)) j10 = ([.ow ((encL Val.int) j10.1), .no, .no, .im (Val.int j10.2)] : List Sl) from fun (j10_0, j10_1) => rfl) _)) (EvC.wkR (ec_last (es_ret (ev_v 3 rfl (pv 3))) rfl) (.s (.n (.n (.n .nil)))))))))))
    exact ⟨_, EvC.ss main_, law_size_oo (law_size draws script) draws script⟩
/-! _law_tide -/
abbrev s_law_tide : Stmt := topS 16
theorem sc_law_tide : FnScope ["draws", "script", "many", "by", "wide", "k"] ["draws", "script", "many"] (defScope s_law_tide) := ⟨rfl, rfl, rfl, by decide +kernel, rfl, by decide +kernel, by decide +kernel⟩
def law_tide_e1 (draws : (List Int)) (script : (List Int)) : Int × (List Int) := (law_size draws script)
def law_tide_e2 (draws : (List Int)) (script : (List Int)) : Int × (List Int) := (law_take (law_tide_e1 draws script).2 (2 : Int))
def law_tide_e3 (draws : (List Int)) (script : (List Int)) : Int × (List Int) := (law_take (law_tide_e2 draws script).2 (2 : Int))
def law_tide_e4 (draws : (List Int)) (script : (List Int)) : Int := (ix ([(0 : Int), (((law_tide_e1 draws script).1 % ((10 : Int) ^ (28 : Nat))) * ((1 : Int) - ((2 : Int) * (law_tide_e2 draws script).1)))] : List Int) (law_tide_e3 draws script).1 (0 : Int))
def law_tide_e5 (draws : (List Int)) (script : (List Int)) : Int × (List Int) := (law_take (law_tide_e3 draws script).2 (3 : Int))
def law_tide_e9 (wide : Int) (s : ((List Int))) : Int × (List Int) := (law_take s wide)
def law_tide_g8 (by_ : Int) (wide : Int) (s : (List Int)) (x : Int) : Int × ((List Int)) := ((by_ + (law_tide_e9 wide s).1), (law_tide_e9 wide s).2)
def law_tide_g8_ok (by_ : Int) (wide : Int) (s : (List Int)) (x : Int) : Prop := law_take_ok s wide
def law_tide_e10 (draws : (List Int)) (script : (List Int)) (many : Int) : (List Int) × (List Int) := (lcGL (fun s (_ : Int) => (true, s)) (law_tide_g8 (law_tide_e4 draws script) (ix ([(2 : Int), (5 : Int), (12 : Int)] : List Int) (law_tide_e5 draws script).1 (0 : Int))) (law_tide_e5 draws script).2 (irange 0 many))
def law_tide (draws : (List Int)) (script : (List Int)) (many : Int) : (((List Int) × Int) × (List Int)) := (((law_tide_e10 draws script many).1, (law_tide_e4 draws script)), (law_tide_e10 draws script many).2)
def law_tide_ok (draws : (List Int)) (script : (List Int)) (many : Int) : Prop := (((law_size_ok draws script ∧ law_take_ok (law_tide_e1 draws script).2 (2 : Int) ∧ MulOk ((law_tide_e1 draws script).1 % ((10 : Int) ^ (28 : Nat))) ((1 : Int) - ((2 : Int) * (law_tide_e2 draws script).1))) ∧ law_take_ok (law_tide_e2 draws script).2 (2 : Int) ∧ IxOk ([(0 : Int), (((law_tide_e1 draws script).1 % ((10 : Int) ^ (28 : Nat))) * ((1 : Int) - ((2 : Int) * (law_tide_e2 draws script).1)))] : List Int) (law_tide_e3 draws script).1) ∧ ((law_take_ok (law_tide_e3 draws script).2 (3 : Int) ∧ IxOk ([(2 : Int), (5 : Int), (12 : Int)] : List Int) (law_tide_e5 draws script).1) ∧ (many ≤ 16777216 ∧ (lcGOk (fun s (_ : Int) => (true, s)) (law_tide_g8 (law_tide_e4 draws script) (ix ([(2 : Int), (5 : Int), (12 : Int)] : List Int) (law_tide_e5 draws script).1 (0 : Int))) (fun (_ : (List Int)) (_ : Int) => True) (law_tide_g8_ok (law_tide_e4 draws script) (ix ([(2 : Int), (5 : Int), (12 : Int)] : List Int) (law_tide_e5 draws script).1 (0 : Int))) (law_tide_e5 draws script).2 (irange 0 many)))))
def law_tide_o : (((List Int) × Int) × (List Int)) → Out
  | (t_0, t_1) => .rt (.im ((enc2 (encT Val.int) Val.int) t_0)) [.ow ((encL Val.int) t_1), .no, .no, .no, .no, .no]
theorem law_tide_oo (t : (((List Int) × Int) × (List Int))) (draws : (List Int)) (script : (List Int)) (many : Int) : OutOk [.mu ((encL Val.int) draws), .im ((encL Val.int) script), .im (Val.int many)] (.im ((enc2 (encT Val.int) Val.int) t.1)) [.mu ((encL Val.int) t.2), .im ((encL Val.int) script), .im (Val.int many)] (law_tide_o t) := by
  obtain ⟨t_0, t_1⟩ := t; exact ⟨rfl, OE.ok (.mu (.im (.im .nil)))⟩
def R_law_tide : Rel := fun args_ r_ outs_ => ∃ (draws : (List Int)) (script : (List Int)) (many : Int), law_tide_ok draws script many ∧ args_ = [.mu ((encL Val.int) draws), .im ((encL Val.int) script), .im (Val.int many)] ∧ r_ = .im ((enc2 (encT Val.int) Val.int) (law_tide draws script many).1) ∧ outs_ = [.mu ((encL Val.int) (law_tide draws script many).2), .im ((encL Val.int) script), .im (Val.int many)]
theorem R_law_tide_of (draws : (List Int)) (script : (List Int)) (many : Int) {v_ : (((List Int) × Int) × (List Int))} (h : law_tide_ok draws script many) (e : law_tide draws script many = v_) : R_law_tide [.mu ((encL Val.int) draws), .im ((encL Val.int) script), .im (Val.int many)] (.im ((enc2 (encT Val.int) Val.int) v_.1)) [.mu ((encL Val.int) v_.2), .im ((encL Val.int) script), .im (Val.int many)] := by subst e; exact ⟨draws, script, many, h, rfl, rfl, rfl⟩
set_option maxHeartbeats 2000000 in
theorem ok_law_tide (D : DefAt K mg "_law_tide" s_law_tide ["draws", "script", "many"]) (m_tuple : mg "tuple" = none) (m_range : mg "range" = none) (C_law_size : CalOk P w K mg base "_law_size" ["draws", "script"] 2 R_law_size) (C_law_take : CalOk P w K mg base "_law_take" ["draws", "many"] 1 R_law_take) : CalOk P w K mg base "_law_tide" ["draws", "script", "many"] 3 R_law_tide := by
  refine D.ok sc_law_tide (by decide) (fun args r outs h => ?_) (fun f_ cdv_ A_ outer_ sh_ H_ E_ hr_ args r outs h => ?_)
  · obtain ⟨draws, script, many, h, rfl, rfl, rfl⟩ := h; exact len_of rfl rfl
  · obtain ⟨draws, script, many, h, rfl, rfl, rfl⟩ := h
    have nd_ := sc_law_tide.nd
    have hu64_ := hu64 hr_; have hu65_ := hu65 hr_
    have law_tide_g8_b : ∀ (script : (List Int)) (many : Int) (by_ : Int) (wide : Int) (s : (List Int)) (x : Int), (fun (_ : (List Int)) (_ : Int) => True) s x → ∃ envx envt, (∀ s' H0 C cl fp, EvG (Bk (cxOf CX0 P w K mg base ["draws", "script", "many", "by", "wide", "k"] "_law_tide" (defScope s_law_tide) f_ cdv_ A_ outer_ sh_ H_ E_).nox (lcScope (exAt (exAt (stEx (stAt (defBody s_law_tide) 2)) 0) 1)) s' H0 C cl fp) (oth 6 (List.map (·.2) ([("k", 5)] : List (Str × Nat)))) (lcTg (exAt (exAt (stEx (stAt (defBody s_law_tide) 2)) 0) 1)) (Val.int x) (wipeE ([.ow ((encL Val.int) s), .im ((encL Val.int) script), .im (Val.int many), .im (Val.int by_), .im (Val.int wide), .no] : List Sl) (List.map (·.2) ([("k", 5)] : List (Str × Nat)))) envx) ∧ wipeE envx (List.map (·.2) ([("k", 5)] : List (Str × Nat))) = wipeE ([.ow ((encL Val.int) s), .im ((encL Val.int) script), .im (Val.int many), .im (Val.int by_), .im (Val.int wide), .no] : List Sl) (List.map (·.2) ([("k", 5)] : List (Str × Nat))) ∧ EvTA (cxOf CX0 P w K mg base ["draws", "script", "many", "by", "wide", "k"] "_law_tide" (defScope s_law_tide) f_ cdv_ A_ outer_ sh_ H_ E_).nox (lcScope (exAt (exAt (stEx (stAt (defBody s_law_tide) 2)) 0) 1)) (lcIfs (exAt (exAt (stEx (stAt (defBody s_law_tide) 2)) 0) 1)) envx ((fun s (_ : Int) => (true, s)) s x).1 envt ∧ wipeE envt (List.map (·.2) ([("k", 5)] : List (Str × Nat))) = wipeE ((fun so7 : (List Int) => [.ow ((encL Val.int) so7), .im ((encL Val.int) script), .im (Val.int many), .im (Val.int by_), .im (Val.int wide), .no]) ((fun s (_ : Int) => (true, s)) s x).2) (List.map (·.2) ([("k", 5)] : List (Str × Nat))) ∧ (∀ i ∈ (List.map (·.2) ([("k", 5)] : List (Str × Nat))), ((fun so7 : (List Int) => [.ow ((encL Val.int) so7), .im ((encL Val.int) script), .im (Val.int many), .im (Val.int by_), .im (Val.int wide), .no]) ((fun s (_ : Int) => (true, s)) s x).2)[i]? = ([.ow ((encL Val.int) s), .im ((encL Val.int) script), .im (Val.int many), .im (Val.int by_), .im (Val.int wide), .no] : List Sl)[i]?) ∧ (((fun s (_ : Int) => (true, s)) s x).1 = true → (law_tide_g8_ok by_ wide) ((fun s (_ : Int) => (true, s)) s x).2 x → ∃ envy, (∀ s' H0 C cl fp, Ev (Bk (cxOf CX0 P w K mg base ["draws", "script", "many", "by", "wide", "k"] "_law_tide" (defScope s_law_tide) f_ cdv_ A_ outer_ sh_ H_ E_).nox (lcScope (exAt (exAt (stEx (stAt (defBody s_law_tide) 2)) 0) 1)) s' H0 C cl fp) (lcElt (exAt (exAt (stEx (stAt (defBody s_law_tide) 2)) 0) 1)) envt (.val (Val.int ((law_tide_g8 by_ wide) ((fun s (_ : Int) => (true, s)) s x).2 x).1)) envy) ∧ wipeE envy (List.map (·.2) ([("k", 5)] : List (Str × Nat))) = wipeE ((fun so7 : (List Int) => [.ow ((encL Val.int) so7), .im ((encL Val.int) script), .im (Val.int many), .im (Val.int by_), .im (Val.int wide), .no]) ((law_tide_g8 by_ wide) ((fun s (_ : Int) => (true, s)) s x).2 x).2) (List.map (·.2) ([("k", 5)] : List (Str × Nat))) ∧ ∀ i ∈ (List.map (·.2) ([("k", 5)] : List (Str × Nat))), ((fun so7 : (List Int) => [.ow ((encL Val.int) so7), .im ((encL Val.int) script), .im (Val.int many), .im (Val.int by_), .im (Val.int wide), .no]) ((law_tide_g8 by_ wide) ((fun s (_ : Int) => (true, s)) s x).2 x).2)[i]? = ([.ow ((encL Val.int) s), .im ((encL Val.int) script), .im (Val.int many), .im (Val.int by_), .im (Val.int wide), .no] : List Sl)[i]?) := fun script many by_ wide s x h => ⟨_, _, fun _ _ _ _ _ => (eg_name 5 (pg_name nd_ rfl (by first | exact .inl rfl | exact .inr rfl)) (Nat.le_of_ble_eq_true rfl) (nm rfl)), rfl, eta_nil, rfl, by intro i hi; simp at hi; (try (rcases hi with rfl | rfl | rfl)) <;> (try (rcases hi with rfl | rfl)) <;> (try subst hi) <;> rfl, fun _ hg => ⟨_, fun _ _ _ _ _ => (ev_add (ev_v 3 rfl (pv 3)) (ev_call (C_law_take.pe hr_ (by decide) (by rfl)) (ea_cons (ev_o 0 rfl (pv 0)) (ea_cons (ev_v 4 rfl (pv 4)) ea_nil)) (.mu rfl (by simp) (.im .nil)) (R_law_take_of s wide hg (rfl : (law_take s wide) = (law_tide_e9 wide s))))), rfl, by intro i hi; simp at hi; (try (rcases hi with rfl | rfl | rfl)) <;> (try (rcases hi with rfl | rfl)) <;> (try subst hi) <;> rfl⟩⟩
    have main_ : EvC (cxOf CX0 P w K mg base ["draws", "script", "many", "by", "wide", "k"] "_law_tide" (defScope s_law_tide) f_ cdv_ A_ outer_ sh_ H_ E_).nox [0] [defBody s_law_tide] [.ow ((encL Val.int) draws), .im ((encL Val.int) script), .im (Val.int many), .no, .no, .no] (law_tide_o (law_tide draws script many)) := (show EvC _ _ _ _ (law_tide_o ((((law_tide_e10 draws script many).1, (law_tide_e4 draws script)), (law_tide_e10 draws script many).2))) from (ec_cons (EvS.to (env2 := [.ow ((encL Val.int) (law_tide_e3 draws script).2), .im ((encL Val.int) script), .im (Val.int many), .im (Val.int (law_tide_e4 draws script)), .no, .no]) (es_setV (ps_set (i := 3) nd_ rfl (by first | exact .inl rfl | exact .inr rfl) (pe_wp _)) (ev_ixT (f := Val.int) (0 : Int) h.1.2.2 (EvN.frz (en_lst (xs := [Val.int (0 : Int), Val.int (((law_tide_e1 draws script).1 % ((10 : Int) ^ (28 : Nat))) * ((1 : Int) - ((2 : Int) * (law_tide_e2 draws script).1)))]) (Nat.le_of_ble_eq_true rfl) (ea_cons ev_int (ea_cons (ev_mul h.1.1.2.2 (ev_mod (by decide +kernel) (ev_call (C_law_size.pe hr_ (by decide) (by rfl)) (ea_cons (ev_o 0 rfl (pv 0)) (ea_cons (ev_v 1 rfl (pv 1)) ea_nil)) (.mu rfl (by simp) (.im .nil)) (R_law_size_of draws script h.1.1.1 (rfl : (law_size draws script) = (law_tide_e1 draws script)))) (ev_pow (k := 28) ⟨by decide, by decide⟩ ev_int ev_int)) (ev_sub ev_int (ev_mul (.inl (.inl ⟨by decide +kernel, by decide +kernel⟩)) ev_int (ev_call (C_law_take.pe hr_ (by decide) (by rfl)) (ea_cons (ev_o 0 rfl (pv 0)) (ea_cons ev_int ea_nil)) (.mu rfl (by simp) (.im .nil)) (R_law_take_of (law_tide_e1 draws script).2 (2 : Int) h.1.1.2.1 (rfl : (law_take (law_tide_e1 draws script).2 (2 : Int)) = (law_tide_e2 draws script))))))) ea_nil)))) (ev_call (C_law_take.pe hr_ (by decide) (by rfl)) (ea_cons (ev_o 0 rfl (pv 0)) (ea_cons ev_int ea_nil)) (.mu rfl (by simp) (.im .nil)) (R_law_take_of (law_tide_e2 draws script).2 (2 : Int) h.1.2.1 (rfl : (law_take (law_tide_e2 draws script).2 (2 : Int)) = (law_tide_e3 draws script)))) (.val _) (.lst _)) (Nat.le_of_ble_eq_true rfl) (nm rfl)) rfl) (ec_cons (EvS.to (env2 := [.ow ((encL Val.int) (law_tide_e5 draws script).2), .im ((encL Val.int) script), .im (Val.int many), .im (Val.int (law_tide_e4 draws script)), .im (Val.int (ix ([(2 : Int), (5 : Int), (12 : Int)] : List Int) (law_tide_e5 draws script).1 (0 : Int))), .no]) (es_setV (ps_set (i := 4) nd_ rfl (by first | exact .inl rfl | exact .inr rfl) (pe_wp _)) (ev_ixT (f := Val.int) (0 : Int) h.2.1.2 (EvN.frz (en_lst (xs := [Val.int (2 : Int), Val.int (5 : Int), Val.int (12 : Int)]) (Nat.le_of_ble_eq_true rfl) (ea_cons ev_int (ea_cons ev_int (ea_cons ev_int ea_nil))))) (ev_call (C_law_take.pe hr_ (by decide) (by rfl)) (ea_cons (ev_o 0 rfl (pv 0)) (ea_cons ev_int ea_nil)) (.mu rfl (by simp) (.im .nil)) (R_law_take_of (law_tide_e3 draws script).2 (3 : Int) h.2.1.1 (rfl : (law_take (law_tide_e3 draws script).2 (3 : Int)) = (law_tide_e5 draws script)))) (.val _) (.lst _)) (Nat.le_of_ble_eq_true rfl) (nm rfl)) rfl) (EvC.wkR (ec_last (es_ret (ev_tup (xs := [(encT Val.int) (law_tide_e10 draws script many).1, Val.int (law_tide_e4 draws script)]) (Nat.le_of_ble_eq_true rfl) (ea_cons (ev_tuple m_tuple (EvN.frz (EvN.toG (v := (encL Val.int) (law_tide_e10 draws script many).1) (env2 := [.ow ((encL Val.int) (law_tide_e10 draws script many).2), .im ((encL Val.int) script), .im (Val.int many), .im (Val.int (law_tide_e4 draws script)), .im (Val.int (ix ([(2 : Int), (5 : Int), (12 : Int)] : List Int) (law_tide_e5 draws script).1 (0 : Int))), .no]) (en_lc0 (own := [("k", 5)]) rfl nd_ (pi_rangeW1 (by rfl) m_range (pa_wp _)) (blkOk_by rfl) (lcG (vs := (List.map (·.2) ([("k", 5)] : List (Str × Nat)))) (fun so7 : (List Int) => [.ow ((encL Val.int) so7), .im ((encL Val.int) script), .im (Val.int many), .im (Val.int (law_tide_e4 draws script)), .im (Val.int (ix ([(2 : Int), (5 : Int), (12 : Int)] : List Int) (law_tide_e5 draws script).1 (0 : Int))), .no]) (law_tide_e5 draws script).2 Val.int Val.int (irange 0 many) (fun s (_ : Int) => (true, s)) (law_tide_g8 (law_tide_e4 draws script) (ix ([(2 : Int), (5 : Int), (12 : Int)] : List Int) (law_tide_e5 draws script).1 (0 : Int))) (fun (_ : (List Int)) (_ : Int) => True) (law_tide_g8_ok (law_tide_e4 draws script) (ix ([(2 : Int), (5 : Int), (12 : Int)] : List Int) (law_tide_e5 draws script).1 (0 : Int))) 6 ((src_w1 (ev_v 2 rfl (pv 2)) h.2.2.1)) h.2.2.2 (fun _ => rfl) (fun st_ xt_ hx_ ho_ => law_tide_g8_b script many (law_tide_e4 draws script) (ix ([(2 : Int), (5 : Int), (12 : Int)] : List Int) (law_tide_e5 draws script).1 (0 : Int)) st_ xt_ ho_))) rfl rfl)) (.val _)) (ea_cons (ev_v 3 rfl (pv 3)) ea_nil)))) rfl) (.s (.n (.n (.n (.n (.n .nil))))))))))
    exact ⟨_, EvC.ss main_, law_tide_oo (law_tide draws script many) draws script many⟩
/-! _law_water -/
abbrev s_law_water : Stmt := topS 17
theorem sc_law_water : FnScope ["row", "hour"] ["row", "hour"] (defScope s_law_water) := ⟨rfl, rfl, rfl, by decide +kernel, rfl, by decide +kernel, by decide +kernel⟩
def law_water (row : (List Int)) (hour : Int) : (Int) := (ix row (hour % ((row).length : Int)) (0 : Int))
def law_water_ok (row : (List Int)) (hour : Int) : Prop := (0 < ((row).length : Int) ∧ IxOk row (hour % ((row).length : Int)))
def law_water_o (t : (Int)) : Out := .rt (.im (Val.int t)) [.no, .no]
theorem law_water_oo (t : (Int)) (row : (List Int)) (hour : Int) : OutOk [.im ((encT Val.int) row), .im (Val.int hour)] (.im (Val.int t)) [.im ((encT Val.int) row), .im (Val.int hour)] (law_water_o t) := by
  exact ⟨rfl, OE.ok (.im (.im .nil))⟩
def R_law_water : Rel := fun args_ r_ outs_ => ∃ (row : (List Int)) (hour : Int), law_water_ok row hour ∧ args_ = [.im ((encT Val.int) row), .im (Val.int hour)] ∧ r_ = .im (Val.int (law_water row hour)) ∧ outs_ = [.im ((encT Val.int) row), .im (Val.int hour)]
theorem R_law_water_of (row : (List Int)) (hour : Int) {v_ : (Int)} (h : law_water_ok row hour) (e : law_water row hour = v_) : R_law_water [.im ((encT Val.int) row), .im (Val.int hour)] (.im (Val.int v_)) [.im ((encT Val.int) row), .im (Val.int hour)] := by subst e; exact ⟨row, hour, h, rfl, rfl, rfl⟩
set_option maxHeartbeats 2000000 in
theorem ok_law_water (D : DefAt K mg "_law_water" s_law_water ["row", "hour"]) (m_int : mg "int" = none) (m_len : mg "len" = none) : CalOk P w K mg base "_law_water" ["row", "hour"] 1 R_law_water := by
  refine D.ok sc_law_water (by decide) (fun args r outs h => ?_) (fun f_ cdv_ A_ outer_ sh_ H_ E_ hr_ args r outs h => ?_)
  · obtain ⟨row, hour, h, rfl, rfl, rfl⟩ := h; exact len_of rfl rfl
  · obtain ⟨row, hour, h, rfl, rfl, rfl⟩ := h
    have nd_ := sc_law_water.nd
    have hu64_ := hu64 hr_; have hu65_ := hu65 hr_
    have main_ : EvC (cxOf CX0 P w K mg base ["row", "hour"] "_law_water" (defScope s_law_water) f_ cdv_ A_ outer_ sh_ H_ E_).nox [] [defBody s_law_water] [.im ((encT Val.int) row), .im (Val.int hour)] (law_water_o (law_water row hour)) := (show EvC _ _ _ _ (law_water_o ((ix row (hour % ((row).length : Int)) (0 : Int)))) from (EvC.wkR (ec_last (es_ret (ev_ixT (f := Val.int) (0 : Int) h.2 (ev_v 0 rfl (pv 0)) (ev_mod h.1 (ev_int1 m_int (ev_v 1 rfl (pv 1))) (ev_lenT m_len (ev_v 0 rfl (pv 0)) (.val _) (.tup _))) (.val _) (.tup _))) rfl) (.n (.n .nil))))
    exact ⟨_, EvC.ss main_, law_water_oo (law_water row hour) row hour⟩
/-! _law_longest -/
abbrev s_law_longest : Stmt := topS 18
theorem sc_law_longest : FnScope ["row", "level", "best", "first", "many"] ["row", "level"] (defScope s_law_longest) := ⟨rfl, rfl, rfl, by decide +kernel, rfl, by decide +kernel, by decide +kernel⟩
def law_longest_e5 (row : (List Int)) (first : Int) (s : (Int)) : Int := (law_water row (first + s))
def law_longest_w4 (row : (List Int)) (level : Int) (first : Int) (s : Int) : Int := (s + (1 : Int))
def law_longest_w4_ok (row : (List Int)) (level : Int) (first : Int) (s : Int) : Prop := True
def law_longest_w4_c (row : (List Int)) (level : Int) (first : Int) (s : Int) : Bool := ((decide (s ≤ ((row).length : Int))) && (decide (level ≤ (law_longest_e5 row first s))))
def law_longest_w4_cok (row : (List Int)) (level : Int) (first : Int) (s : Int) : Prop := ((decide (s ≤ ((row).length : Int))) = true → law_water_ok row (first + s))
def law_longest_f2 (row : (List Int)) (level : Int) (s : Int) (x : Int) : LO (Int) ((Option Int)) := (if (decide (((row).length : Int) < (whileS (law_longest_w4_c row level x) (law_longest_w4 row level x) (((row)).length + 2) (0 : Int)))) = true then LO.rt (none : (Option Int)) else LO.nx (max s (whileS (law_longest_w4_c row level x) (law_longest_w4 row level x) (((row)).length + 2) (0 : Int))))
def law_longest_f2_ok (row : (List Int)) (level : Int) (s : Int) (x : Int) : Prop := whileSOk (law_longest_w4_c row level x) (law_longest_w4 row level x) (law_longest_w4_cok row level x) (law_longest_w4_ok row level x) (((row)).length + 2) (0 : Int)
def law_longest (row : (List Int)) (level : Int) : ((Option Int)) := (afterL (loopL (law_longest_f2 row level) (0 : Int) (irange 0 ((row).length : Int))) (fun so1 => (some so1)) (fun r9 => r9))
def law_longest_ok (row : (List Int)) (level : Int) : Prop := loopOk (law_longest_f2 row level) (law_longest_f2_ok row level) (0 : Int) (irange 0 ((row).length : Int))
def law_longest_o (t : ((Option Int))) : Out := .rt (.im ((encO Val.int) t)) [.no, .no, .no, .no, .no]
theorem law_longest_oo (t : ((Option Int))) (row : (List Int)) (level : Int) : OutOk [.im ((encT Val.int) row), .im (Val.int level)] (.im ((encO Val.int) t)) [.im ((encT Val.int) row), .im (Val.int level)] (law_longest_o t) := by
  exact ⟨rfl, OE.ok (.im (.im .nil))⟩
def R_law_longest : Rel := fun args_ r_ outs_ => ∃ (row : (List Int)) (level : Int), law_longest_ok row level ∧ args_ = [.im ((encT Val.int) row), .im (Val.int level)] ∧ r_ = .im ((encO Val.int) (law_longest row level)) ∧ outs_ = [.im ((encT Val.int) row), .im (Val.int level)]
theorem R_law_longest_of (row : (List Int)) (level : Int) {v_ : ((Option Int))} (h : law_longest_ok row level) (e : law_longest row level = v_) : R_law_longest [.im ((encT Val.int) row), .im (Val.int level)] (.im ((encO Val.int) v_)) [.im ((encT Val.int) row), .im (Val.int level)] := by subst e; exact ⟨row, level, h, rfl, rfl, rfl⟩
set_option maxHeartbeats 2000000 in
theorem ok_law_longest (D : DefAt K mg "_law_longest" s_law_longest ["row", "level"]) (m_range : mg "range" = none) (m_len : mg "len" = none) (m_max : mg "max" = none) (C_law_water : CalOk P w K mg base "_law_water" ["row", "hour"] 1 R_law_water) : CalOk P w K mg base "_law_longest" ["row", "level"] 2 R_law_longest := by
  refine D.ok sc_law_longest (by decide) (fun args r outs h => ?_) (fun f_ cdv_ A_ outer_ sh_ H_ E_ hr_ args r outs h => ?_)
  · obtain ⟨row, level, h, rfl, rfl, rfl⟩ := h; exact len_of rfl rfl
  · obtain ⟨row, level, h, rfl, rfl, rfl⟩ := h
    have nd_ := sc_law_longest.nd
    have hu64_ := hu64 hr_; have hu65_ := hu65 hr_
    have law_longest_w4_b : ∀ (row : (List Int)) (level : Int) (best : Int) (first : Int) (s : Int), law_longest_w4_ok row level first s → EvSs (cxOf CX0 P w K mg base ["row", "level", "best", "first", "many"] "_law_longest" (defScope s_law_longest) f_ cdv_ A_ outer_ sh_ H_ E_).nox [] (loopBody (stAt (loopBody (stAt (defBody s_law_longest) 1)) 1)) [.im ((encT Val.int) row), .im (Val.int level), .im (Val.int best), .im (Val.int first), .im (Val.int s)] (.nx ((fun so3 : Int => [.im ((encT Val.int) row), .im (Val.int level), .im (Val.int best), .im (Val.int first), .im (Val.int so3)]) ((law_longest_w4 row level first) s))) := fun row level best first s h => EvSs.wkN (ess_cons (EvS.to (env2 := [.im ((encT Val.int) row), .im (Val.int level), .im (Val.int best), .im (Val.int first), .im (Val.int (s + (1 : Int)))]) (es_setV (ps_set (i := 4) nd_ rfl (by first | exact .inl rfl | exact .inr rfl) (pe_wp _)) (ev_add (ev_v 4 rfl (pv 4)) ev_int) (Nat.le_of_ble_eq_true rfl) (nm rfl)) rfl) ess_nil) (.s (.s (.s (.s (.s .nil)))))
    have law_longest_w4_t : ∀ (row : (List Int)) (level : Int) (best : Int) (first : Int) (s : Int), law_longest_w4_cok row level first s → EvT (cxOf CX0 P w K mg base ["row", "level", "best", "first", "many"] "_law_longest" (defScope s_law_longest) f_ cdv_ A_ outer_ sh_ H_ E_).nox (whTest (stAt (loopBody (stAt (defBody s_law_longest) 1)) 1)) [.im ((encT Val.int) row), .im (Val.int level), .im (Val.int best), .im (Val.int first), .im (Val.int s)] (law_longest_w4_c row level first s) [.im ((encT Val.int) row), .im (Val.int level), .im (Val.int best), .im (Val.int first), .im (Val.int s)] := fun row level best first s h => (EvW.t (ew_and (et_le (ev_v 4 rfl (pv 4)) (ev_lenT m_len (ev_v 0 rfl (pv 0)) (.val _) (.tup _))) (fun hb6 => (ew_and1 (et_ge (ev_call (C_law_water.pe hr_ (by decide) (by rfl)) (ea_cons (ev_v 0 rfl (pv 0)) (ea_cons (ev_add (ev_v 3 rfl (pv 3)) (ev_v 4 rfl (pv 4))) ea_nil)) (.im (.im .nil)) (R_law_water_of row (first + s) (h hb6) (rfl : (law_water row (first + s)) = (law_longest_e5 row first s)))) (ev_v 1 rfl (pv 1)))))))
    have law_longest_f2_b : ∀ (row : (List Int)) (level : Int) (s : Int) (x : Int), law_longest_f2_ok row level s x → ∃ envt, EvG (cxOf CX0 P w K mg base ["row", "level", "best", "first", "many"] "_law_longest" (defScope s_law_longest) f_ cdv_ A_ outer_ sh_ H_ E_).nox [] (forTg (stAt (defBody s_law_longest) 1)) (Val.int x) [.im ((encT Val.int) row), .im (Val.int level), .im (Val.int s), .no, .no] envt ∧ EvSs (cxOf CX0 P w K mg base ["row", "level", "best", "first", "many"] "_law_longest" (defScope s_law_longest) f_ cdv_ A_ outer_ sh_ H_ E_).nox [] (loopBody (stAt (defBody s_law_longest) 1)) envt (outLO (fun so1 : Int => [.im ((encT Val.int) row), .im (Val.int level), .im (Val.int so1), .no, .no]) law_longest_o ((law_longest_f2 row level) s x)) := fun row level s x h => ⟨_, (eg_name 3 (pg_name nd_ rfl (by first | exact .inl rfl | exact .inr rfl)) (Nat.le_of_ble_eq_true rfl) (nm rfl)), EvC.ss (ec_cons (EvS.to (env2 := [.im ((encT Val.int) row), .im (Val.int level), .im (Val.int s), .im (Val.int x), .im (Val.int (0 : Int))]) (es_setV (ps_set (i := 4) nd_ rfl (by first | exact .inl rfl | exact .inr rfl) (pe_wp _)) ev_int (Nat.le_of_ble_eq_true rfl) (nm rfl)) rfl) (ec_cons (EvS.to (env2 := [.im ((encT Val.int) row), .im (Val.int level), .im (Val.int s), .im (Val.int x), .im (Val.int (whileS (law_longest_w4_c row level x) (law_longest_w4 row level x) (((row)).length + 2) (0 : Int)))]) (EvS.wk0 (.s (.s (.s (.s (.s .nil))))) (es_whileS (fun so3 : Int => [.im ((encT Val.int) row), .im (Val.int level), .im (Val.int s), .im (Val.int x), .im (Val.int so3)]) (law_longest_w4_c row level x) (law_longest_w4 row level x) (law_longest_w4_cok row level x) (law_longest_w4_ok row level x) (((row)).length + 2) (0 : Int) PassesOwn.never h (fun st_ ho_ => law_longest_w4_t row level s x st_ ho_) (fun st_ ho_ hc_ => law_longest_w4_b row level s x st_ ho_))) rfl) (ec_ifV (outLO (fun so1 : Int => [.im ((encT Val.int) row), .im (Val.int level), .im (Val.int so1), .no, .no]) law_longest_o) (t1 := LO.rt (none : (Option Int))) (t0 := LO.nx (max s (whileS (law_longest_w4_c row level x) (law_longest_w4 row level x) (((row)).length + 2) (0 : Int)))) (et_gt (ev_v 4 rfl (pv 4)) (ev_lenT m_len (ev_v 0 rfl (pv 0)) (.val _) (.tup _))) (fun hc8 => (EvC.wkR (ec_last (es_ret ev_non) rfl) (.n (.n (.n (.n (.n .nil))))))) (fun hc8 => (ec_nil (ec_cons (EvS.to (env2 := [.im ((encT Val.int) row), .im (Val.int level), .im (Val.int (max s (whileS (law_longest_w4_c row level x) (law_longest_w4 row level x) (((row)).length + 2) (0 : Int)))), .im (Val.int x), .im (Val.int (whileS (law_longest_w4_c row level x) (law_longest_w4 row level x) (((row)).length + 2) (0 : Int)))]) (es_setV (ps_set (i := 2) nd_ rfl (by first | exact .inl rfl | exact .inr rfl) (pe_wp _)) (ev_max2 rfl m_max (ev_v 2 rfl (pv 2)) (ev_v 4 rfl (pv 4))) (Nat.le_of_ble_eq_true rfl) (nm rfl)) rfl) (ec_nil (EvC.wkN ec_end (.s (.s (.s (.n (.n .nil)))))))))))))⟩
    have main_ : EvC (cxOf CX0 P w K mg base ["row", "level", "best", "first", "many"] "_law_longest" (defScope s_law_longest) f_ cdv_ A_ outer_ sh_ H_ E_).nox [] [defBody s_law_longest] [.im ((encT Val.int) row), .im (Val.int level), .no, .no, .no] (law_longest_o (law_longest row level)) := (show EvC _ _ _ _ (law_longest_o ((afterL (loopL (law_longest_f2 row level) (0 : Int) (irange 0 ((row).length : Int))) (fun so1 => (some so1)) (fun r9 => r9)))) from (ec_cons (EvS.to (env2 := [.im ((encT Val.int) row), .im (Val.int level), .im (Val.int (0 : Int)), .no, .no]) (es_setV (ps_set (i := 2) nd_ rfl (by first | exact .inl rfl | exact .inr rfl) (pe_wp _)) ev_int (Nat.le_of_ble_eq_true rfl) (nm rfl)) rfl) (ec_loop law_longest_o (k := fun so1 => (some so1)) (r := (fun r9 => r9)) (es_forLW1 (envS := (fun so1 : Int => [.im ((encT Val.int) row), .im (Val.int level), .im (Val.int so1), .no, .no])) (outR := law_longest_o) (fun _ => isRt) (law_longest_f2 row level) (law_longest_f2_ok row level) ((row).length : Int) (0 : Int) rfl PassesOwn.never m_range (Ev.wk (ev_lenT m_len (ev_v 0 rfl (pv 0)) (.val _) (.tup _)) (.s (.s (.s (.n (.n .nil)))))) h (fun st_ xt_ hx_ ho_ => law_longest_f2_b row level st_ xt_ ho_)) (fun so1 hs10 => EvC.ren (env1 := [.im ((encT Val.int) row), .im (Val.int level), .im (Val.int so1), .no, .no]) (EvC.wkR (ec_last (es_ret (ev_v 2 rfl (pv 2))) rfl) (.n (.n (.n (.n (.n .nil)))))) rfl) (fun _ => ⟨rfl, isRt⟩))))
    exact ⟨_, EvC.ss main_, law_longest_oo (law_longest row level) row level⟩
/-! _law_hours_right -/
abbrev s_law_hours_right : Stmt := topS 19
theorem sc_law_hours_right : FnScope ["draws", "script", "row", "by", "k", "hour", "level", "fit", "later", "end", "own", "best"] ["draws", "script", "row", "by"] (defScope s_law_hours_right) := ⟨rfl, rfl, rfl, by decide +kernel, rfl, by decide +kernel, by decide +kernel⟩
def law_hours_right_e3 (s : ((List Int))) : Int × (List Int) := (law_take s (60 : Int))
def law_hours_right_e4 (script : (List Int)) (s : ((List Int))) : Int × (List Int) := (law_size (law_hours_right_e3 s).2 script)
def law_hours_right_e5 (script : (List Int)) (s : ((List Int))) : Int × (List Int) := (law_take (law_hours_right_e4 script s).2 (2 : Int))
def law_hours_right_e6 (script : (List Int)) (s : ((List Int))) : Int × (List Int) := (law_take (law_hours_right_e5 script s).2 (2 : Int))
def law_hours_right_e7 (script : (List Int)) (s : ((List Int))) : Int := (ix ([((law_hours_right_e3 s).1 - (20 : Int)), (((law_hours_right_e4 script s).1 % ((10 : Int) ^ (28 : Nat))) * ((1 : Int) - ((2 : Int) * (law_hours_right_e5 script s).1)))] : List Int) (law_hours_right_e6 script s).1 (0 : Int))
def law_hours_right_e8 (script : (List Int)) (s : ((List Int))) : Int × (List Int) := (law_take (law_hours_right_e6 script s).2 (14 : Int))
def law_hours_right_e9 (script : (List Int)) (row : (List Int)) (s : ((List Int))) : Int := (water_at row (law_hours_right_e7 script s))
def law_hours_right_e10 (script : (List Int)) (row : (List Int)) (s : ((List Int))) : Int := (law_water row (law_hours_right_e7 script s))
def law_hours_right_e11 (script : (List Int)) (row : (List Int)) (s : ((List Int))) : Int := (water_at row ((law_hours_right_e7 script s) + ((row).length : Int)))
def law_hours_right_e13 (row : (List Int)) (x12 : Int) : Int := (law_water row x12)
def law_hours_right_e14 (script : (List Int)) (row : (List Int)) (by_ : Int) (s : ((List Int))) : (Option Int) := (next_at_least row (law_hours_right_e7 script s) ((by_ + (law_hours_right_e8 script s).1) - (1 : Int)))
def law_hours_right_e15 (script : (List Int)) (s : ((List Int))) : Int × (List Int) := (law_take (law_hours_right_e8 script s).2 (50 : Int))
def law_hours_right_e16 (script : (List Int)) (row : (List Int)) (by_ : Int) (s : ((List Int))) : (List Int) := (hours_shut row ((by_ + (law_hours_right_e8 script s).1) - (1 : Int)) (law_hours_right_e7 script s) ((law_hours_right_e7 script s) + (law_hours_right_e15 script s).1))
def law_hours_right_e18 (row : (List Int)) (x17 : Int) : Int := (law_water row x17)
def law_hours_right_e20 (row : (List Int)) (x19 : Int) : Int := (law_water row x19)
def law_hours_right_e21 (script : (List Int)) (row : (List Int)) (s : ((List Int))) : (Int × Int) := (ix (srt (lt2 (fun a b : Int => decide (a < b)) (fun a b : Int => decide (a < b))) ((irange (law_hours_right_e7 script s) (((law_hours_right_e7 script s) + (law_hours_right_e15 script s).1) + (1 : Int))).map (fun x19 => ((-(law_hours_right_e20 row x19)), x19)))) (0 : Int) ((0 : Int), (0 : Int)))
def law_hours_right_e22 (script : (List Int)) (row : (List Int)) (s : ((List Int))) : ((Option Int) × Int) := (highest_in row (law_hours_right_e7 script s) (((law_hours_right_e7 script s) + (law_hours_right_e15 script s).1) + (1 : Int)))
def law_hours_right_e23 (script : (List Int)) (row : (List Int)) (by_ : Int) (s : ((List Int))) : (Option Int) := (longest_window row ((by_ + (law_hours_right_e8 script s).1) - (1 : Int)))
def law_hours_right_e24 (script : (List Int)) (row : (List Int)) (by_ : Int) (s : ((List Int))) : (Option Int) := (law_longest row ((by_ + (law_hours_right_e8 script s).1) - (1 : Int)))
def law_hours_right_f2 (script : (List Int)) (row : (List Int)) (by_ : Int) (s : (List Int)) (x : Int) : LO ((List Int)) (Bool × (List Int)) := (if ((!(decide ((law_hours_right_e9 script row s) = (law_hours_right_e10 script row s)))) || (!(decide ((law_hours_right_e11 script row s) = (law_hours_right_e10 script row s))))) = true then LO.rt (false, (law_hours_right_e8 script s).2) else (if (!(decide ((law_hours_right_e14 script row by_ s) = (ix ((((irange (law_hours_right_e7 script s) ((law_hours_right_e7 script s) + ((row).length : Int))).filter (fun x12 => (decide (((by_ + (law_hours_right_e8 script s).1) - (1 : Int)) ≤ (law_hours_right_e13 row x12))))).map (fun x12 => (some x12))) ++ ([(none : (Option Int))] : List (Option Int))) (0 : Int) (none : Option Int))))) = true then LO.rt (false, (law_hours_right_e8 script s).2) else (if (!(decide ((law_hours_right_e16 script row by_ s) = (((irange (law_hours_right_e7 script s) ((law_hours_right_e7 script s) + (law_hours_right_e15 script s).1)).filter (fun x17 => (decide ((law_hours_right_e18 row x17) < ((by_ + (law_hours_right_e8 script s).1) - (1 : Int)))))).map (fun x17 => x17))))) = true then LO.rt (false, (law_hours_right_e15 script s).2) else (if ((!(decide ((law_hours_right_e22 script row s) = ((some (law_hours_right_e21 script row s).2), (-(law_hours_right_e21 script row s).1))))) || (!(decide ((law_hours_right_e23 script row by_ s) = (law_hours_right_e24 script row by_ s))))) = true then LO.rt (false, (law_hours_right_e15 script s).2) else LO.nx (law_hours_right_e15 script s).2))))
def law_hours_right_f2_ok (script : (List Int)) (row : (List Int)) (by_ : Int) (s : (List Int)) (x : Int) : Prop := (((law_take_ok s (60 : Int) ∧ (law_size_ok (law_hours_right_e3 s).2 script ∧ law_take_ok (law_hours_right_e4 script s).2 (2 : Int) ∧ MulOk ((law_hours_right_e4 script s).1 % ((10 : Int) ^ (28 : Nat))) ((1 : Int) - ((2 : Int) * (law_hours_right_e5 script s).1)))) ∧ law_take_ok (law_hours_right_e5 script s).2 (2 : Int) ∧ IxOk ([((law_hours_right_e3 s).1 - (20 : Int)), (((law_hours_right_e4 script s).1 % ((10 : Int) ^ (28 : Nat))) * ((1 : Int) - ((2 : Int) * (law_hours_right_e5 script s).1)))] : List Int) (law_hours_right_e6 script s).1) ∧ (law_take_ok (law_hours_right_e6 script s).2 (14 : Int) ∧ (((water_at_ok row (law_hours_right_e7 script s) ∧ law_water_ok row (law_hours_right_e7 script s)) ∧ ((!(decide ((law_hours_right_e9 script row s) = (law_hours_right_e10 script row s)))) = false → (water_at_ok row ((law_hours_right_e7 script s) + ((row).length : Int)) ∧ law_water_ok row (law_hours_right_e7 script s)))) ∧ (((!(decide ((law_hours_right_e9 script row s) = (law_hours_right_e10 script row s)))) || (!(decide ((law_hours_right_e11 script row s) = (law_hours_right_e10 script row s))))) = false → ((((law_hours_right_e7 script s) + ((row).length : Int)) ≤ (law_hours_right_e7 script s) + 16777216 ∧ (∀ x12 ∈ (irange (law_hours_right_e7 script s) ((law_hours_right_e7 script s) + ((row).length : Int))), law_water_ok row x12)) ∧ ((next_at_least_ok row (law_hours_right_e7 script s) ((by_ + (law_hours_right_e8 script s).1) - (1 : Int)) ∧ (((((irange (law_hours_right_e7 script s) ((law_hours_right_e7 script s) + ((row).length : Int))).filter (fun x12 => (decide (((by_ + (law_hours_right_e8 script s).1) - (1 : Int)) ≤ (law_hours_right_e13 row x12))))).map (fun x12 => (some x12)))).length + (([(none : (Option Int))] : List (Option Int))).length ≤ sizeLine ∧ IxOk ((((irange (law_hours_right_e7 script s) ((law_hours_right_e7 script s) + ((row).length : Int))).filter (fun x12 => (decide (((by_ + (law_hours_right_e8 script s).1) - (1 : Int)) ≤ (law_hours_right_e13 row x12))))).map (fun x12 => (some x12))) ++ ([(none : (Option Int))] : List (Option Int))) (0 : Int))) ∧ ((!(decide ((law_hours_right_e14 script row by_ s) = (ix ((((irange (law_hours_right_e7 script s) ((law_hours_right_e7 script s) + ((row).length : Int))).filter (fun x12 => (decide (((by_ + (law_hours_right_e8 script s).1) - (1 : Int)) ≤ (law_hours_right_e13 row x12))))).map (fun x12 => (some x12))) ++ ([(none : (Option Int))] : List (Option Int))) (0 : Int) (none : Option Int))))) = false → (law_take_ok (law_hours_right_e8 script s).2 (50 : Int) ∧ ((hours_shut_ok row ((by_ + (law_hours_right_e8 script s).1) - (1 : Int)) (law_hours_right_e7 script s) ((law_hours_right_e7 script s) + (law_hours_right_e15 script s).1) ∧ (((law_hours_right_e7 script s) + (law_hours_right_e15 script s).1) ≤ (law_hours_right_e7 script s) + 16777216 ∧ (∀ x17 ∈ (irange (law_hours_right_e7 script s) ((law_hours_right_e7 script s) + (law_hours_right_e15 script s).1)), law_water_ok row x17))) ∧ ((!(decide ((law_hours_right_e16 script row by_ s) = (((irange (law_hours_right_e7 script s) ((law_hours_right_e7 script s) + (law_hours_right_e15 script s).1)).filter (fun x17 => (decide ((law_hours_right_e18 row x17) < ((by_ + (law_hours_right_e8 script s).1) - (1 : Int)))))).map (fun x17 => x17))))) = false → ((((((law_hours_right_e7 script s) + (law_hours_right_e15 script s).1) + (1 : Int)) ≤ (law_hours_right_e7 script s) + 16777216 ∧ (∀ x19 ∈ (irange (law_hours_right_e7 script s) (((law_hours_right_e7 script s) + (law_hours_right_e15 script s).1) + (1 : Int))), law_water_ok row x19)) ∧ IxOk (srt (lt2 (fun a b : Int => decide (a < b)) (fun a b : Int => decide (a < b))) ((irange (law_hours_right_e7 script s) (((law_hours_right_e7 script s) + (law_hours_right_e15 script s).1) + (1 : Int))).map (fun x19 => ((-(law_hours_right_e20 row x19)), x19)))) (0 : Int)) ∧ (highest_in_ok row (law_hours_right_e7 script s) (((law_hours_right_e7 script s) + (law_hours_right_e15 script s).1) + (1 : Int)) ∧ ((!(decide ((law_hours_right_e22 script row s) = ((some (law_hours_right_e21 script row s).2), (-(law_hours_right_e21 script row s).1))))) = false → (longest_window_ok row ((by_ + (law_hours_right_e8 script s).1) - (1 : Int)) ∧ law_longest_ok row ((by_ + (law_hours_right_e8 script s).1) - (1 : Int))))))))))))))))
def law_hours_right (draws : (List Int)) (script : (List Int)) (row : (List Int)) (by_ : Int) : (Bool × (List Int)) := (afterL (loopL (law_hours_right_f2 script row by_) draws (irange 0 (4 : Int))) (fun so1 => (true, so1)) (fun r42 => r42))
def law_hours_right_ok (draws : (List Int)) (script : (List Int)) (row : (List Int)) (by_ : Int) : Prop := loopOk (law_hours_right_f2 script row by_) (law_hours_right_f2_ok script row by_) draws (irange 0 (4 : Int))
def law_hours_right_o : (Bool × (List Int)) → Out
  | (t_0, t_1) => .rt (.im (Val.bl t_0)) [.ow ((encL Val.int) t_1), .no, .no, .no, .no, .no, .no, .no, .no, .no, .no, .no]
theorem law_hours_right_oo (t : (Bool × (List Int))) (draws : (List Int)) (script : (List Int)) (row : (List Int)) (by_ : Int) : OutOk [.mu ((encL Val.int) draws), .im ((encL Val.int) script), .im ((encT Val.int) row), .im (Val.int by_)] (.im (Val.bl t.1)) [.mu ((encL Val.int) t.2), .im ((encL Val.int) script), .im ((encT Val.int) row), .im (Val.int by_)] (law_hours_right_o t) := by
  obtain ⟨t_0, t_1⟩ := t; exact ⟨rfl, OE.ok (.mu (.im (.im (.im .nil))))⟩
def R_law_hours_right : Rel := fun args_ r_ outs_ => ∃ (draws : (List Int)) (script : (List Int)) (row : (List Int)) (by_ : Int), law_hours_right_ok draws script row by_ ∧ args_ = [.mu ((encL Val.int) draws), .im ((encL Val.int) script), .im ((encT Val.int) row), .im (Val.int by_)] ∧ r_ = .im (Val.bl (law_hours_right draws script row by_).1) ∧ outs_ = [.mu ((encL Val.int) (law_hours_right draws script row by_).2), .im ((encL Val.int) script), .im ((encT Val.int) row), .im (Val.int by_)]
theorem R_law_hours_right_of (draws : (List Int)) (script : (List Int)) (row : (List Int)) (by_ : Int) {v_ : (Bool × (List Int))} (h : law_hours_right_ok draws script row by_) (e : law_hours_right draws script row by_ = v_) : R_law_hours_right [.mu ((encL Val.int) draws), .im ((encL Val.int) script), .im ((encT Val.int) row), .im (Val.int by_)] (.im (Val.bl v_.1)) [.mu ((encL Val.int) v_.2), .im ((encL Val.int) script), .im ((encT Val.int) row), .im (Val.int by_)] := by subst e; exact ⟨draws, script, row, by_, h, rfl, rfl, rfl⟩
set_option maxHeartbeats 2000000 in
theorem ok_law_hours_right (D : DefAt K mg "_law_hours_right" s_law_hours_right ["draws", "script", "row", "by"]) (m_range : mg "range" = none) (m_len : mg "len" = none) (m_tuple : mg "tuple" = none) (m_sorted : mg "sorted" = none) (C_law_take : CalOk P w K mg base "_law_take" ["draws", "many"] 1 R_law_take) (C_law_size : CalOk P w K mg base "_law_size" ["draws", "script"] 2 R_law_size) (C_water_at : CalOk P w K mg base "water_at" ["row", "hour"] 1 R_water_at) (C_law_water : CalOk P w K mg base "_law_water" ["row", "hour"] 1 R_law_water) (C_law_same : ∀ d, CalOk P w K mg base "_law_same" ["actual", "due"] (d + 1) (R_same d)) (C_next_at_least : CalOk P w K mg base "next_at_least" ["row", "hour", "level"] 2 R_next_at_least) (C_hours_shut : CalOk P w K mg base "hours_shut" ["row", "level", "begin", "end"] 2 R_hours_shut) (C_highest_in : CalOk P w K mg base "highest_in" ["row", "begin", "end"] 3 R_highest_in) (C_longest_window : CalOk P w K mg base "longest_window" ["row", "level"] 2 R_longest_window) (C_law_longest : CalOk P w K mg base "_law_longest" ["row", "level"] 2 R_law_longest) : CalOk P w K mg base "_law_hours_right" ["draws", "script", "row", "by"] 4 R_law_hours_right := by
  refine D.ok sc_law_hours_right (by decide) (fun args r outs h => ?_) (fun f_ cdv_ A_ outer_ sh_ H_ E_ hr_ args r outs h => ?_)
  · obtain ⟨draws, script, row, by_, h, rfl, rfl, rfl⟩ := h; exact len_of rfl rfl
  · obtain ⟨draws, script, row, by_, h, rfl, rfl, rfl⟩ := h
    have nd_ := sc_law_hours_right.nd
    have hu64_ := hu64 hr_; have hu65_ := hu65 hr_
    have law_hours_right_f2_b : ∀ (script : (List Int)) (row : (List Int)) (by_ : Int) (s : (List Int)) (x : Int), law_hours_right_f2_ok script row by_ s x → ∃ envt, EvG (cxOf CX0 P w K mg base ["draws", "script", "row", "by", "k", "hour", "level", "fit", "later", "end", "own", "best"] "_law_hours_right" (defScope s_law_hours_right) f_ cdv_ A_ outer_ sh_ H_ E_).nox [0] (forTg (stAt (defBody s_law_hours_right) 0)) (Val.int x) [.ow ((encL Val.int) s), .im ((encL Val.int) script), .im ((encT Val.int) row), .im (Val.int by_), .no, .no, .no, .no, .no, .no, .no, .no] envt ∧ EvSs (cxOf CX0 P w K mg base ["draws", "script", "row", "by", "k", "hour", "level", "fit", "later", "end", "own", "best"] "_law_hours_right" (defScope s_law_hours_right) f_ cdv_ A_ outer_ sh_ H_ E_).nox [0] (loopBody (stAt (defBody s_law_hours_right) 0)) envt (outLO (fun so1 : (List Int) => [.ow ((encL Val.int) so1), .im ((encL Val.int) script), .im ((encT Val.int) row), .im (Val.int by_), .no, .no, .no, .no, .no, .no, .no, .no]) law_hours_right_o ((law_hours_right_f2 script row by_) s x)) := fun script row by_ s x h => ⟨_, (eg_name 4 (pg_name nd_ rfl (by first | exact .inl rfl | exact .inr rfl)) (Nat.le_of_ble_eq_true rfl) (nm rfl)), EvC.ss (ec_cons (EvS.to (env2 := [.ow ((encL Val.int) (law_hours_right_e6 script s).2), .im ((encL Val.int) script), .im ((encT Val.int) row), .im (Val.int by_), .im (Val.int x), .im (Val.int (law_hours_right_e7 script s)), .no, .no, .no, .no, .no, .no]) (es_setV (ps_set (i := 5) nd_ rfl (by first | exact .inl rfl | exact .inr rfl) (pe_wp _)) (ev_ixT (f := Val.int) (0 : Int) h.1.2.2 (EvN.frz (en_lst (xs := [Val.int ((law_hours_right_e3 s).1 - (20 : Int)), Val.int (((law_hours_right_e4 script s).1 % ((10 : Int) ^ (28 : Nat))) * ((1 : Int) - ((2 : Int) * (law_hours_right_e5 script s).1)))]) (Nat.le_of_ble_eq_true rfl) (ea_cons (ev_sub (ev_call (C_law_take.pe hr_ (by decide) (by rfl)) (ea_cons (ev_o 0 rfl (pv 0)) (ea_cons ev_int ea_nil)) (.mu rfl (by simp) (.im .nil)) (R_law_take_of s (60 : Int) h.1.1.1 (rfl : (law_take s (60 : Int)) = (law_hours_right_e3 s)))) ev_int) (ea_cons (ev_mul h.1.1.2.2.2 (ev_mod (by decide +kernel) (ev_call (C_law_size.pe hr_ (by decide) (by rfl)) (ea_cons (ev_o 0 rfl (pv 0)) (ea_cons (ev_v 1 rfl (pv 1)) ea_nil)) (.mu rfl (by simp) (.im .nil)) (R_law_size_of (law_hours_right_e3 s).2 script h.1.1.2.1 (rfl : (law_size (law_hours_right_e3 s).2 script) = (law_hours_right_e4 script s)))) (ev_pow (k := 28) ⟨by decide, by decide⟩ ev_int ev_int)) (ev_sub ev_int (ev_mul (.inl (.inl ⟨by decide +kernel, by decide +kernel⟩)) ev_int (ev_call (C_law_take.pe hr_ (by decide) (by rfl)) (ea_cons (ev_o 0 rfl (pv 0)) (ea_cons ev_int ea_nil)) (.mu rfl (by simp) (.im .nil)) (R_law_take_of (law_hours_right_e4 script s).2 (2 : Int) h.1.1.2.2.1 (rfl : (law_take (law_hours_right_e4 script s).2 (2 : Int)) = (law_hours_right_e5 script s))))))) ea_nil)))) (ev_call (C_law_take.pe hr_ (by decide) (by rfl)) (ea_cons (ev_o 0 rfl (pv 0)) (ea_cons ev_int ea_nil)) (.mu rfl (by simp) (.im .nil)) (R_law_take_of (law_hours_right_e5 script s).2 (2 : Int) h.1.2.1 (rfl : (law_take (law_hours_right_e5 script s).2 (2 : Int)) = (law_hours_right_e6 script s)))) (.val _) (.lst _)) (Nat.le_of_ble_eq_true rfl) (nm rfl)) rfl) (ec_cons (EvS.to (env2 := [.ow ((encL Val.int) (law_hours_right_e8 script s).2), .im ((encL Val.int) script), .im ((encT Val.int) row), .im (Val.int by_), .im (Val.int x), .im (Val.int (law_hours_right_e7 script s)), .im (Val.int ((by_ + (law_hours_right_e8 script s).1) - (1 : Int))), .no, .no, .no, .no, .no]) (es_setV (ps_set (i := 6) nd_ rfl (by first | exact .inl rfl | exact .inr rfl) (pe_wp _)) (ev_sub (ev_add (ev_v 3 rfl (pv 3)) (ev_call (C_law_take.pe hr_ (by decide) (by rfl)) (ea_cons (ev_o 0 rfl (pv 0)) (ea_cons ev_int ea_nil)) (.mu rfl (by simp) (.im .nil)) (R_law_take_of (law_hours_right_e6 script s).2 (14 : Int) h.2.1 (rfl : (law_take (law_hours_right_e6 script s).2 (14 : Int)) = (law_hours_right_e8 script s))))) ev_int) (Nat.le_of_ble_eq_true rfl) (nm rfl)) rfl) (ec_ifV (outLO (fun so1 : (List Int) => [.ow ((encL Val.int) so1), .im ((encL Val.int) script), .im ((encT Val.int) row), .im (Val.int by_), .no, .no, .no, .no, .no, .no, .no, .no]) law_hours_right_o) (t1 := LO.rt (false, (law_hours_right_e8 script s).2)) (t0 := (if (!(decide ((law_hours_right_e14 script row by_ s) = (ix ((((irange (law_hours_right_e7 script s) ((law_hours_right_e7 script s) + ((row).length : Int))).filter (fun x12 => (decide (((by_ + (law_hours_right_e8 script s).1) - (1 : Int)) ≤ (law_hours_right_e13 row x12))))).map (fun x12 => (some x12))) ++ ([(none : (Option Int))] : List (Option Int))) (0 : Int) (none : Option Int))))) = true then LO.rt (false, (law_hours_right_e8 script s).2) else (if (!(decide ((law_hours_right_e16 script row by_ s) = (((irange (law_hours_right_e7 script s) ((law_hours_right_e7 script s) + (law_hours_right_e15 script s).1)).filter (fun x17 => (decide ((law_hours_right_e18 row x17) < ((by_ + (law_hours_right_e8 script s).1) - (1 : Int)))))).map (fun x17 => x17))))) = true then LO.rt (false, (law_hours_right_e15 script s).2) else (if ((!(decide ((law_hours_right_e22 script row s) = ((some (law_hours_right_e21 script row s).2), (-(law_hours_right_e21 script row s).1))))) || (!(decide ((law_hours_right_e23 script row by_ s) = (law_hours_right_e24 script row by_ s))))) = true then LO.rt (false, (law_hours_right_e15 script s).2) else LO.nx (law_hours_right_e15 script s).2)))) (EvW.t (ew_or (et_not (et_val (ev_call ((C_law_same 0).pe hr_ (by decide) (by rfl)) (ea_cons (ev_call (C_water_at.pe hr_ (by decide) (by rfl)) (ea_cons (ev_v 2 rfl (pv 2)) (ea_cons (ev_v 5 rfl (pv 5)) ea_nil)) (.im (.im .nil)) (R_water_at_of row (law_hours_right_e7 script s) h.2.2.1.1.1 (rfl : (water_at row (law_hours_right_e7 script s)) = (law_hours_right_e9 script row s)))) (ea_cons (ev_call (C_law_water.pe hr_ (by decide) (by rfl)) (ea_cons (ev_v 2 rfl (pv 2)) (ea_cons (ev_v 5 rfl (pv 5)) ea_nil)) (.im (.im .nil)) (R_law_water_of row (law_hours_right_e7 script s) h.2.2.1.1.2 (rfl : (law_water row (law_hours_right_e7 script s)) = (law_hours_right_e10 script row s)))) ea_nil)) (.im (.im .nil)) ⟨_, _, _, ls_int (law_hours_right_e9 script row s) (law_hours_right_e10 script row s), rfl, rfl, rfl⟩))) (fun hb26 => (ew_or1 (et_not (et_val (ev_call ((C_law_same 0).pe hr_ (by decide) (by rfl)) (ea_cons (ev_call (C_water_at.pe hr_ (by decide) (by rfl)) (ea_cons (ev_v 2 rfl (pv 2)) (ea_cons (ev_add (ev_v 5 rfl (pv 5)) (ev_lenT m_len (ev_v 2 rfl (pv 2)) (.val _) (.tup _))) ea_nil)) (.im (.im .nil)) (R_water_at_of row ((law_hours_right_e7 script s) + ((row).length : Int)) (h.2.2.1.2 hb26).1 (rfl : (water_at row ((law_hours_right_e7 script s) + ((row).length : Int))) = (law_hours_right_e11 script row s)))) (ea_cons (ev_call (C_law_water.pe hr_ (by decide) (by rfl)) (ea_cons (ev_v 2 rfl (pv 2)) (ea_cons (ev_v 5 rfl (pv 5)) ea_nil)) (.im (.im .nil)) (R_law_water_of row (law_hours_right_e7 script s) (h.2.2.1.2 hb26).2 (rfl : (law_water row (law_hours_right_e7 script s)) = (law_hours_right_e10 script row s)))) ea_nil)) (.im (.im .nil)) ⟨_, _, _, ls_int (law_hours_right_e11 script row s) (law_hours_right_e10 script row s), rfl, rfl, rfl⟩))))))) (fun hc25 => (EvC.wkR (ec_last (es_ret ev_bl) rfl) (.s (.n (.n (.n (.n (.n (.n (.n (.n (.n (.n (.n .nil)))))))))))))) (fun hc25 => (ec_nil (ec_cons (EvS.to (env2 := [.ow ((encL Val.int) (law_hours_right_e8 script s).2), .im ((encL Val.int) script), .im ((encT Val.int) row), .im (Val.int by_), .im (Val.int x), .im (Val.int (law_hours_right_e7 script s)), .im (Val.int ((by_ + (law_hours_right_e8 script s).1) - (1 : Int))), .im ((encL (encO Val.int)) (((irange (law_hours_right_e7 script s) ((law_hours_right_e7 script s) + ((row).length : Int))).filter (fun x12 => (decide (((by_ + (law_hours_right_e8 script s).1) - (1 : Int)) ≤ (law_hours_right_e13 row x12))))).map (fun x12 => (some x12)))), .no, .no, .no, .no]) (es_set (es_lc1 (M := []) (i := 7) (own := [("later", 8)]) rfl nd_ rfl rfl (sw_true rfl rfl rfl (by decide +kernel)) (pi_rangeW2 (by rfl) m_range (pa_wp _)) (blkOk_by rfl)) (EvNR.frz (lcF (vs := List.map (·.2) ([("later", 8)] : List (Str × Nat))) Val.int (encO Val.int) (irange (law_hours_right_e7 script s) ((law_hours_right_e7 script s) + ((row).length : Int))) (fun x12 => (decide (((by_ + (law_hours_right_e8 script s).1) - (1 : Int)) ≤ (law_hours_right_e13 row x12)))) (fun x12 => (some x12)) (fun x12 => law_water_ok row x12) (fun x12 => True) (src_w2 (ev_v 5 rfl (pv 5)) (ev_add (ev_v 5 rfl (pv 5)) (ev_lenT m_len (ev_v 2 rfl (pv 2)) (.val _) (.tup _))) (h.2.2.2 hc25).1.1) (fun x12 hx28 => ⟨((h.2.2.2 hc25).1.2 x12 hx28), fun hp30 => trivial⟩) fun x12 hx28 ho29 => ⟨_, fun _ _ _ _ _ => (eg_name 8 (pg_name nd_ rfl (by first | exact .inl rfl | exact .inr rfl)) (Nat.le_of_ble_eq_true rfl) (nm rfl)), rfl, fun _ _ _ _ _ => (et_ge (ev_call (C_law_water.pe hr_ (by decide) (by rfl)) (ea_cons (ev_v 2 rfl (pv 2)) (ea_cons (ev_v 8 rfl (pv 8)) ea_nil)) (.im (.im .nil)) (R_law_water_of row x12 ho29 (rfl : (law_water row x12) = (law_hours_right_e13 row x12)))) (ev_v 6 rfl (pv 6))), fun hp30 hghp30 _ _ _ _ _ => (ev_v 8 rfl (pv 8))⟩)) (Nat.le_of_ble_eq_true rfl) (nm rfl)) rfl) (ec_ifV (outLO (fun so1 : (List Int) => [.ow ((encL Val.int) so1), .im ((encL Val.int) script), .im ((encT Val.int) row), .im (Val.int by_), .no, .no, .no, .no, .no, .no, .no, .no]) law_hours_right_o) (t1 := LO.rt (false, (law_hours_right_e8 script s).2)) (t0 := (if (!(decide ((law_hours_right_e16 script row by_ s) = (((irange (law_hours_right_e7 script s) ((law_hours_right_e7 script s) + (law_hours_right_e15 script s).1)).filter (fun x17 => (decide ((law_hours_right_e18 row x17) < ((by_ + (law_hours_right_e8 script s).1) - (1 : Int)))))).map (fun x17 => x17))))) = true then LO.rt (false, (law_hours_right_e15 script s).2) else (if ((!(decide ((law_hours_right_e22 script row s) = ((some (law_hours_right_e21 script row s).2), (-(law_hours_right_e21 script row s).1))))) || (!(decide ((law_hours_right_e23 script row by_ s) = (law_hours_right_e24 script row by_ s))))) = true then LO.rt (false, (law_hours_right_e15 script s).2) else LO.nx (law_hours_right_e15 script s).2))) (et_not (et_val (ev_call ((C_law_same 0).pe hr_ (by decide) (by rfl)) (ea_cons (ev_call (C_next_at_least.pe hr_ (by decide) (by rfl)) (ea_cons (ev_v 2 rfl (pv 2)) (ea_cons (ev_v 5 rfl (pv 5)) (ea_cons (ev_v 6 rfl (pv 6)) ea_nil))) (.im (.im (.im .nil))) (R_next_at_least_of row (law_hours_right_e7 script s) ((by_ + (law_hours_right_e8 script s).1) - (1 : Int)) (h.2.2.2 hc25).2.1.1 (rfl : (next_at_least row (law_hours_right_e7 script s) ((by_ + (law_hours_right_e8 script s).1) - (1 : Int))) = (law_hours_right_e14 script row by_ s)))) (ea_cons (ev_ixT (f := (encO Val.int)) (none : Option Int) (h.2.2.2 hc25).2.1.2.2 (EvN.frz (en_catT (f := (encO Val.int)) (h.2.2.2 hc25).2.1.2.1 (ev_v 7 rfl (pv 7)) (EvN.frz (en_lst (xs := [(encO Val.int) (none : (Option Int))]) (Nat.le_of_ble_eq_true rfl) (ea_cons ev_non ea_nil))) (.val _) (.val _))) ev_int (.val _) (.lst _)) ea_nil)) (.im (.im .nil)) ⟨_, _, _, (ls_O ls_int sn_int) (law_hours_right_e14 script row by_ s) (ix ((((irange (law_hours_right_e7 script s) ((law_hours_right_e7 script s) + ((row).length : Int))).filter (fun x12 => (decide (((by_ + (law_hours_right_e8 script s).1) - (1 : Int)) ≤ (law_hours_right_e13 row x12))))).map (fun x12 => (some x12))) ++ ([(none : (Option Int))] : List (Option Int))) (0 : Int) (none : Option Int)), rfl, rfl, rfl⟩))) (fun hc31 => (EvC.wkR (ec_last (es_ret ev_bl) rfl) (.s (.n (.n (.n (.n (.n (.n (.n (.n (.n (.n (.n .nil)))))))))))))) (fun hc31 => (ec_nil (ec_cons (EvS.to (env2 := [.ow ((encL Val.int) (law_hours_right_e15 script s).2), .im ((encL Val.int) script), .im ((encT Val.int) row), .im (Val.int by_), .im (Val.int x), .im (Val.int (law_hours_right_e7 script s)), .im (Val.int ((by_ + (law_hours_right_e8 script s).1) - (1 : Int))), .im ((encL (encO Val.int)) (((irange (law_hours_right_e7 script s) ((law_hours_right_e7 script s) + ((row).length : Int))).filter (fun x12 => (decide (((by_ + (law_hours_right_e8 script s).1) - (1 : Int)) ≤ (law_hours_right_e13 row x12))))).map (fun x12 => (some x12)))), .no, .im (Val.int ((law_hours_right_e7 script s) + (law_hours_right_e15 script s).1)), .no, .no]) (es_setV (ps_set (i := 9) nd_ rfl (by first | exact .inl rfl | exact .inr rfl) (pe_wp _)) (ev_add (ev_v 5 rfl (pv 5)) (ev_call (C_law_take.pe hr_ (by decide) (by rfl)) (ea_cons (ev_o 0 rfl (pv 0)) (ea_cons ev_int ea_nil)) (.mu rfl (by simp) (.im .nil)) (R_law_take_of (law_hours_right_e8 script s).2 (50 : Int) ((h.2.2.2 hc25).2.2 hc31).1 (rfl : (law_take (law_hours_right_e8 script s).2 (50 : Int)) = (law_hours_right_e15 script s))))) (Nat.le_of_ble_eq_true rfl) (nm rfl)) rfl) (ec_ifV (outLO (fun so1 : (List Int) => [.ow ((encL Val.int) so1), .im ((encL Val.int) script), .im ((encT Val.int) row), .im (Val.int by_), .no, .no, .no, .no, .no, .no, .no, .no]) law_hours_right_o) (t1 := LO.rt (false, (law_hours_right_e15 script s).2)) (t0 := (if ((!(decide ((law_hours_right_e22 script row s) = ((some (law_hours_right_e21 script row s).2), (-(law_hours_right_e21 script row s).1))))) || (!(decide ((law_hours_right_e23 script row by_ s) = (law_hours_right_e24 script row by_ s))))) = true then LO.rt (false, (law_hours_right_e15 script s).2) else LO.nx (law_hours_right_e15 script s).2)) (et_not (et_val (ev_call ((C_law_same 1).pe hr_ (by decide) (by rfl)) (ea_cons (ev_call (C_hours_shut.pe hr_ (by decide) (by rfl)) (ea_cons (ev_v 2 rfl (pv 2)) (ea_cons (ev_v 6 rfl (pv 6)) (ea_cons (ev_v 5 rfl (pv 5)) (ea_cons (ev_v 9 rfl (pv 9)) ea_nil)))) (.im (.im (.im (.im .nil)))) (R_hours_shut_of row ((by_ + (law_hours_right_e8 script s).1) - (1 : Int)) (law_hours_right_e7 script s) ((law_hours_right_e7 script s) + (law_hours_right_e15 script s).1) ((h.2.2.2 hc25).2.2 hc31).2.1.1 (rfl : (hours_shut row ((by_ + (law_hours_right_e8 script s).1) - (1 : Int)) (law_hours_right_e7 script s) ((law_hours_right_e7 script s) + (law_hours_right_e15 script s).1)) = (law_hours_right_e16 script row by_ s)))) (ea_cons (ev_tuple m_tuple (EvN.frz (en_lc1 (own := [("own", 10)]) rfl nd_ (pi_rangeW2 (by rfl) m_range (pa_wp _)) (blkOk_by rfl) (lcF (vs := List.map (·.2) ([("own", 10)] : List (Str × Nat))) Val.int Val.int (irange (law_hours_right_e7 script s) ((law_hours_right_e7 script s) + (law_hours_right_e15 script s).1)) (fun x17 => (decide ((law_hours_right_e18 row x17) < ((by_ + (law_hours_right_e8 script s).1) - (1 : Int))))) (fun x17 => x17) (fun x17 => law_water_ok row x17) (fun x17 => True) (src_w2 (ev_v 5 rfl (pv 5)) (ev_v 9 rfl (pv 9)) ((h.2.2.2 hc25).2.2 hc31).2.1.2.1) (fun x17 hx33 => ⟨(((h.2.2.2 hc25).2.2 hc31).2.1.2.2 x17 hx33), fun hp35 => trivial⟩) fun x17 hx33 ho34 => ⟨_, fun _ _ _ _ _ => (eg_name 10 (pg_name nd_ rfl (by first | exact .inl rfl | exact .inr rfl)) (Nat.le_of_ble_eq_true rfl) (nm rfl)), rfl, fun _ _ _ _ _ => (et_lt (ev_call (C_law_water.pe hr_ (by decide) (by rfl)) (ea_cons (ev_v 2 rfl (pv 2)) (ea_cons (ev_v 10 rfl (pv 10)) ea_nil)) (.im (.im .nil)) (R_law_water_of row x17 ho34 (rfl : (law_water row x17) = (law_hours_right_e18 row x17)))) (ev_v 6 rfl (pv 6))), fun hp35 hghp35 _ _ _ _ _ => (ev_v 10 rfl (pv 10))⟩))) (.val _)) ea_nil)) (.im (.im .nil)) ⟨_, _, _, (ls_T ls_int) (law_hours_right_e16 script row by_ s) (((irange (law_hours_right_e7 script s) ((law_hours_right_e7 script s) + (law_hours_right_e15 script s).1)).filter (fun x17 => (decide ((law_hours_right_e18 row x17) < ((by_ + (law_hours_right_e8 script s).1) - (1 : Int)))))).map (fun x17 => x17)), rfl, rfl, rfl⟩))) (fun hc32 => (EvC.wkR (ec_last (es_ret ev_bl) rfl) (.s (.n (.n (.n (.n (.n (.n (.n (.n (.n (.n (.n .nil)))))))))))))) (fun hc32 => (ec_nil (ec_cons (EvS.to (env2 := [.ow ((encL Val.int) (law_hours_right_e15 script s).2), .im ((encL Val.int) script), .im ((encT Val.int) row), .im (Val.int by_), .im (Val.int x), .im (Val.int (law_hours_right_e7 script s)), .im (Val.int ((by_ + (law_hours_right_e8 script s).1) - (1 : Int))), .im ((encL (encO Val.int)) (((irange (law_hours_right_e7 script s) ((law_hours_right_e7 script s) + ((row).length : Int))).filter (fun x12 => (decide (((by_ + (law_hours_right_e8 script s).1) - (1 : Int)) ≤ (law_hours_right_e13 row x12))))).map (fun x12 => (some x12)))), .no, .im (Val.int ((law_hours_right_e7 script s) + (law_hours_right_e15 script s).1)), .no, .im ((enc2 Val.int Val.int) (law_hours_right_e21 script row s))]) (es_setV (ps_set (i := 11) nd_ rfl (by first | exact .inl rfl | exact .inr rfl) (pe_wp _)) (ev_ixT (f := (enc2 Val.int Val.int)) ((0 : Int), (0 : Int)) (((h.2.2.2 hc25).2.2 hc31).2.2 hc32).1.2 (EvN.frz (en_sortedT hu64_ m_sorted (od_2 lw_int od_int lw_int od_int) (by decide) (EvN.frz (en_lc0 (own := [("own", 10)]) rfl nd_ (pi_rangeW2 (by rfl) m_range (pa_wp _)) (blkOk_by rfl) (lcM (vs := List.map (·.2) ([("own", 10)] : List (Str × Nat))) Val.int (enc2 Val.int Val.int) (irange (law_hours_right_e7 script s) (((law_hours_right_e7 script s) + (law_hours_right_e15 script s).1) + (1 : Int))) (fun x19 => ((-(law_hours_right_e20 row x19)), x19)) (fun x19 => law_water_ok row x19) (src_w2 (ev_v 5 rfl (pv 5)) (ev_add (ev_v 9 rfl (pv 9)) ev_int) (((h.2.2.2 hc25).2.2 hc31).2.2 hc32).1.1.1) (fun x19 hx36 => (((h.2.2.2 hc25).2.2 hc31).2.2 hc32).1.1.2 x19 hx36) fun x19 hx36 ho37 => ⟨_, fun _ _ _ _ _ => (eg_name 10 (pg_name nd_ rfl (by first | exact .inl rfl | exact .inr rfl)) (Nat.le_of_ble_eq_true rfl) (nm rfl)), rfl, fun _ _ _ _ _ => (ev_tup (xs := [Val.int (-(law_hours_right_e20 row x19)), Val.int x19]) (Nat.le_of_ble_eq_true rfl) (ea_cons (ev_neg (ev_call (C_law_water.pe hr_ (by decide) (by rfl)) (ea_cons (ev_v 2 rfl (pv 2)) (ea_cons (ev_v 10 rfl (pv 10)) ea_nil)) (.im (.im .nil)) (R_law_water_of row x19 ho37 (rfl : (law_water row x19) = (law_hours_right_e20 row x19))))) (ea_cons (ev_v 10 rfl (pv 10)) ea_nil)))⟩))) (.val _))) ev_int (.val _) (.lst _)) (Nat.le_of_ble_eq_true rfl) (nm rfl)) rfl) (ec_ifV (outLO (fun so1 : (List Int) => [.ow ((encL Val.int) so1), .im ((encL Val.int) script), .im ((encT Val.int) row), .im (Val.int by_), .no, .no, .no, .no, .no, .no, .no, .no]) law_hours_right_o) (t1 := LO.rt (false, (law_hours_right_e15 script s).2)) (t0 := LO.nx (law_hours_right_e15 script s).2) (EvW.t (ew_or (et_not (et_val (ev_call ((C_law_same 1).pe hr_ (by decide) (by rfl)) (ea_cons (ev_call (C_highest_in.pe hr_ (by decide) (by rfl)) (ea_cons (ev_v 2 rfl (pv 2)) (ea_cons (ev_v 5 rfl (pv 5)) (ea_cons (ev_add (ev_v 9 rfl (pv 9)) ev_int) ea_nil))) (.im (.im (.im .nil))) (R_highest_in_of row (law_hours_right_e7 script s) (((law_hours_right_e7 script s) + (law_hours_right_e15 script s).1) + (1 : Int)) (((h.2.2.2 hc25).2.2 hc31).2.2 hc32).2.1 (rfl : (highest_in row (law_hours_right_e7 script s) (((law_hours_right_e7 script s) + (law_hours_right_e15 script s).1) + (1 : Int))) = (law_hours_right_e22 script row s)))) (ea_cons (ev_tup (xs := [(encO Val.int) (some (law_hours_right_e21 script row s).2), Val.int (-(law_hours_right_e21 script row s).1)]) (Nat.le_of_ble_eq_true rfl) (ea_cons (ev_ix rfl (ev_v 11 rfl (pv 11)) ev_int (.val _) (.tup _)) (ea_cons (ev_neg (ev_ix rfl (ev_v 11 rfl (pv 11)) ev_int (.val _) (.tup _))) ea_nil))) ea_nil)) (.im (.im .nil)) ⟨_, _, _, (ls_2 (ls_O ls_int sn_int) ls_int) (law_hours_right_e22 script row s) ((some (law_hours_right_e21 script row s).2), (-(law_hours_right_e21 script row s).1)), rfl, rfl, rfl⟩))) (fun hb40 => (ew_or1 (et_not (et_val (ev_call ((C_law_same 0).pe hr_ (by decide) (by rfl)) (ea_cons (ev_call (C_longest_window.pe hr_ (by decide) (by rfl)) (ea_cons (ev_v 2 rfl (pv 2)) (ea_cons (ev_v 6 rfl (pv 6)) ea_nil)) (.im (.im .nil)) (R_longest_window_of row ((by_ + (law_hours_right_e8 script s).1) - (1 : Int)) ((((h.2.2.2 hc25).2.2 hc31).2.2 hc32).2.2 hb40).1 (rfl : (longest_window row ((by_ + (law_hours_right_e8 script s).1) - (1 : Int))) = (law_hours_right_e23 script row by_ s)))) (ea_cons (ev_call (C_law_longest.pe hr_ (by decide) (by rfl)) (ea_cons (ev_v 2 rfl (pv 2)) (ea_cons (ev_v 6 rfl (pv 6)) ea_nil)) (.im (.im .nil)) (R_law_longest_of row ((by_ + (law_hours_right_e8 script s).1) - (1 : Int)) ((((h.2.2.2 hc25).2.2 hc31).2.2 hc32).2.2 hb40).2 (rfl : (law_longest row ((by_ + (law_hours_right_e8 script s).1) - (1 : Int))) = (law_hours_right_e24 script row by_ s)))) ea_nil)) (.im (.im .nil)) ⟨_, _, _, (ls_O ls_int sn_int) (law_hours_right_e23 script row by_ s) (law_hours_right_e24 script row by_ s), rfl, rfl, rfl⟩))))))) (fun hc39 => (EvC.wkR (ec_last (es_ret ev_bl) rfl) (.s (.n (.n (.n (.n (.n (.n (.n (.n (.n (.n (.n .nil)))))))))))))) (fun hc39 => (ec_nil (ec_nil (EvC.wkN ec_end (.s (.s (.s (.s (.n (.n (.n (.n (.n (.n (.n (.n .nil)))))))))))))))))))))))))))))))⟩
    have main_ : EvC (cxOf CX0 P w K mg base ["draws", "script", "row", "by", "k", "hour", "level", "fit", "later", "end", "own", "best"] "_law_hours_right" (defScope s_law_hours_right) f_ cdv_ A_ outer_ sh_ H_ E_).nox [0] [defBody s_law_hours_right] [.ow ((encL Val.int) draws), .im ((encL Val.int) script), .im ((encT Val.int) row), .im (Val.int by_), .no, .no, .no, .no, .no, .no, .no, .no] (law_hours_right_o (law_hours_right draws script row by_)) := (show EvC _ _ _ _ (law_hours_right_o ((afterL (loopL (law_hours_right_f2 script row by_) draws (irange 0 (4 : Int))) (fun so1 => (true, so1)) (fun r42 => r42)))) from (ec_loop law_hours_right_o (k := fun so1 => (true, so1)) (r := (fun r42 => r42)) (es_forLW1 (envS := (fun so1 : (List Int) => [.ow ((encL Val.int) so1), .im ((encL Val.int) script), .im ((encT Val.int) row), .im (Val.int by_), .no, .no, .no, .no, .no, .no, .no, .no])) (outR := law_hours_right_o) (fun _ => isRt) (law_hours_right_f2 script row by_) (law_hours_right_f2_ok script row by_) (4 : Int) draws rfl PassesOwn.never m_range (Ev.wk ev_int (.s (.s (.s (.s (.n (.n (.n (.n (.n (.n (.n (.n .nil))))))))))))) h (fun st_ xt_ hx_ ho_ => law_hours_right_f2_b script row by_ st_ xt_ ho_)) (fun so1 hs43 => EvC.ren (env1 := [.ow ((encL Val.int) so1), .im ((encL Val.int) script), .im ((encT Val.int) row), .im (Val.int by_), .no, .no, .no, .no, .no, .no, .no, .no]) (EvC.wkR (ec_last (es_ret ev_bl) rfl) (.s (.n (.n (.n (.n (.n (.n (.n (.n (.n (.n (.n .nil))))))))))))) rfl) (fun _ => ⟨rfl, isRt⟩)))
    exact ⟨_, EvC.ss main_, law_hours_right_oo (law_hours_right draws script row by_) draws script row by_⟩
/-! _law_rows_right -/
abbrev s_law_rows_right : Stmt := topS 20
theorem sc_law_rows_right : FnScope ["draws", "script", "row", "other", "by", "hour", "long", "due"] ["draws", "script", "row", "other"] (defScope s_law_rows_right) := ⟨rfl, rfl, rfl, by decide +kernel, rfl, by decide +kernel, by decide +kernel⟩
def law_rows_right_e1 (draws : (List Int)) : Int × (List Int) := (law_take draws (40 : Int))
def law_rows_right_e2 (draws : (List Int)) (script : (List Int)) : Int × (List Int) := (law_size (law_rows_right_e1 draws).2 script)
def law_rows_right_e3 (draws : (List Int)) (script : (List Int)) : Int × (List Int) := (law_take (law_rows_right_e2 draws script).2 (2 : Int))
def law_rows_right_e4 (draws : (List Int)) (script : (List Int)) : Int × (List Int) := (law_take (law_rows_right_e3 draws script).2 (2 : Int))
def law_rows_right_e5 (draws : (List Int)) (script : (List Int)) : Int := (ix ([((law_rows_right_e1 draws).1 - (20 : Int)), (((law_rows_right_e2 draws script).1 % ((10 : Int) ^ (28 : Nat))) * ((1 : Int) - ((2 : Int) * (law_rows_right_e3 draws script).1)))] : List Int) (law_rows_right_e4 draws script).1 (0 : Int))
def law_rows_right_e6 (draws : (List Int)) (script : (List Int)) (row : (List Int)) : (List Int) := (turned_row row (law_rows_right_e5 draws script))
def law_rows_right_e8 (draws : (List Int)) (script : (List Int)) (row : (List Int)) (x7 : Int) : Int := (law_water row (x7 - (law_rows_right_e5 draws script)))
def law_rows_right_w10 (row : (List Int)) (other : (List Int)) (s : Int) : Int := (s + ((row).length : Int))
def law_rows_right_w10_ok (row : (List Int)) (other : (List Int)) (s : Int) : Prop := True
def law_rows_right_w10_c (row : (List Int)) (other : (List Int)) (s : Int) : Bool := ((decide (s < (((row).length : Int) * ((other).length : Int)))) && (decide ((0 : Int) < (s % ((other).length : Int)))))
def law_rows_right_w10_cok (row : (List Int)) (other : (List Int)) (s : Int) : Prop := (MulOk ((row).length : Int) ((other).length : Int) ∧ ((decide (s < (((row).length : Int) * ((other).length : Int)))) = true → 0 < ((other).length : Int)))
def law_rows_right_e14 (row : (List Int)) (x13 : Int) : Int := (law_water row x13)
def law_rows_right_e15 (other : (List Int)) (x13 : Int) : Int := (law_water other x13)
def law_rows_right_e16 (row : (List Int)) (other : (List Int)) : (Option (List Int)) := (some ((irange 0 (whileS (law_rows_right_w10_c row other) (law_rows_right_w10 row other) (((other)).length + 1) ((row).length : Int))).map (fun x13 => ((law_rows_right_e14 row x13) + (law_rows_right_e15 other x13)))))
def law_rows_right_e18 (row : (List Int)) (other : (List Int)) : (Option (List Int)) := (if (decide ((400 : Int) < (whileS (law_rows_right_w10_c row other) (law_rows_right_w10 row other) (((other)).length + 1) ((row).length : Int)))) = true then (none : (Option (List Int))) else (law_rows_right_e16 row other))
def law_rows_right_e19 (row : (List Int)) (other : (List Int)) : (Option (List Int)) := (both_rows row other)
def law_rows_right (draws : (List Int)) (script : (List Int)) (row : (List Int)) (other : (List Int)) : (Bool × (List Int)) := (if (!(decide ((law_rows_right_e6 draws script row) = ((irange 0 ((row).length : Int)).map (fun x7 => (law_rows_right_e8 draws script row x7)))))) = true then (false, (law_rows_right_e4 draws script).2) else ((decide ((law_rows_right_e19 row other) = (law_rows_right_e18 row other))), (law_rows_right_e4 draws script).2))
def law_rows_right_ok (draws : (List Int)) (script : (List Int)) (row : (List Int)) (other : (List Int)) : Prop := (((law_take_ok draws (40 : Int) ∧ (law_size_ok (law_rows_right_e1 draws).2 script ∧ law_take_ok (law_rows_right_e2 draws script).2 (2 : Int) ∧ MulOk ((law_rows_right_e2 draws script).1 % ((10 : Int) ^ (28 : Nat))) ((1 : Int) - ((2 : Int) * (law_rows_right_e3 draws script).1)))) ∧ law_take_ok (law_rows_right_e3 draws script).2 (2 : Int) ∧ IxOk ([((law_rows_right_e1 draws).1 - (20 : Int)), (((law_rows_right_e2 draws script).1 % ((10 : Int) ^ (28 : Nat))) * ((1 : Int) - ((2 : Int) * (law_rows_right_e3 draws script).1)))] : List Int) (law_rows_right_e4 draws script).1) ∧ ((turned_row_ok row (law_rows_right_e5 draws script) ∧ (((row).length : Int) ≤ 16777216 ∧ (∀ x7 ∈ (irange 0 ((row).length : Int)), law_water_ok row (x7 - (law_rows_right_e5 draws script))))) ∧ ((!(decide ((law_rows_right_e6 draws script row) = ((irange 0 ((row).length : Int)).map (fun x7 => (law_rows_right_e8 draws script row x7)))))) = false → (whileSOk (law_rows_right_w10_c row other) (law_rows_right_w10 row other) (law_rows_right_w10_cok row other) (law_rows_right_w10_ok row other) (((other)).length + 1) ((row).length : Int) ∧ (((whileS (law_rows_right_w10_c row other) (law_rows_right_w10 row other) (((other)).length + 1) ((row).length : Int)) ≤ 16777216 ∧ (∀ x13 ∈ (irange 0 (whileS (law_rows_right_w10_c row other) (law_rows_right_w10 row other) (((other)).length + 1) ((row).length : Int))), (law_water_ok row x13 ∧ law_water_ok other x13))) ∧ both_rows_ok row other)))))
def law_rows_right_o : (Bool × (List Int)) → Out
  | (t_0, t_1) => .rt (.im (Val.bl t_0)) [.ow ((encL Val.int) t_1), .no, .no, .no, .no, .no, .no, .no]
theorem law_rows_right_oo (t : (Bool × (List Int))) (draws : (List Int)) (script : (List Int)) (row : (List Int)) (other : (List Int)) : OutOk [.mu ((encL Val.int) draws), .im ((encL Val.int) script), .im ((encT Val.int) row), .im ((encT Val.int) other)] (.im (Val.bl t.1)) [.mu ((encL Val.int) t.2), .im ((encL Val.int) script), .im ((encT Val.int) row), .im ((encT Val.int) other)] (law_rows_right_o t) := by
  obtain ⟨t_0, t_1⟩ := t; exact ⟨rfl, OE.ok (.mu (.im (.im (.im .nil))))⟩
def R_law_rows_right : Rel := fun args_ r_ outs_ => ∃ (draws : (List Int)) (script : (List Int)) (row : (List Int)) (other : (List Int)), law_rows_right_ok draws script row other ∧ args_ = [.mu ((encL Val.int) draws), .im ((encL Val.int) script), .im ((encT Val.int) row), .im ((encT Val.int) other)] ∧ r_ = .im (Val.bl (law_rows_right draws script row other).1) ∧ outs_ = [.mu ((encL Val.int) (law_rows_right draws script row other).2), .im ((encL Val.int) script), .im ((encT Val.int) row), .im ((encT Val.int) other)]
theorem R_law_rows_right_of (draws : (List Int)) (script : (List Int)) (row : (List Int)) (other : (List Int)) {v_ : (Bool × (List Int))} (h : law_rows_right_ok draws script row other) (e : law_rows_right draws script row other = v_) : R_law_rows_right [.mu ((encL Val.int) draws), .im ((encL Val.int) script), .im ((encT Val.int) row), .im ((encT Val.int) other)] (.im (Val.bl v_.1)) [.mu ((encL Val.int) v_.2), .im ((encL Val.int) script), .im ((encT Val.int) row), .im ((encT Val.int) other)] := by subst e; exact ⟨draws, script, row, other, h, rfl, rfl, rfl⟩
set_option maxHeartbeats 2000000 in
theorem ok_law_rows_right (D : DefAt K mg "_law_rows_right" s_law_rows_right ["draws", "script", "row", "other"]) (m_tuple : mg "tuple" = none) (m_range : mg "range" = none) (m_len : mg "len" = none) (m_int : mg "int" = none) (C_law_take : CalOk P w K mg base "_law_take" ["draws", "many"] 1 R_law_take) (C_law_size : CalOk P w K mg base "_law_size" ["draws", "script"] 2 R_law_size) (C_turned_row : CalOk P w K mg base "turned_row" ["row", "by"] 2 R_turned_row) (C_law_water : CalOk P w K mg base "_law_water" ["row", "hour"] 1 R_law_water) (C_law_same : ∀ d, CalOk P w K mg base "_law_same" ["actual", "due"] (d + 1) (R_same d)) (C_both_rows : CalOk P w K mg base "both_rows" ["one", "other"] 2 R_both_rows) : CalOk P w K mg base "_law_rows_right" ["draws", "script", "row", "other"] 3 R_law_rows_right := by
  refine D.ok sc_law_rows_right (by decide) (fun args r outs h => ?_) (fun f_ cdv_ A_ outer_ sh_ H_ E_ hr_ args r outs h => ?_)
  · obtain ⟨draws, script, row, other, h, rfl, rfl, rfl⟩ := h; exact len_of rfl rfl
  · obtain ⟨draws, script, row, other, h, rfl, rfl, rfl⟩ := h
    have nd_ := sc_law_rows_right.nd
    have hu64_ := hu64 hr_; have hu65_ := hu65 hr_
    have law_rows_right_w10_b : ∀ (draws : (List Int)) (row : (List Int)) (other : (List Int)) (s : Int), law_rows_right_w10_ok row other s → EvSs (cxOf CX0 P w K mg base ["draws", "script", "row", "other", "by", "hour", "long", "due"] "_law_rows_right" (defScope s_law_rows_right) f_ cdv_ A_ outer_ sh_ H_ E_).nox [0] (loopBody (stAt (defBody s_law_rows_right) 3)) [.ow ((encL Val.int) draws), .no, .im ((encT Val.int) row), .im ((encT Val.int) other), .no, .no, .im (Val.int s), .no] (.nx ((fun so9 : Int => [.ow ((encL Val.int) draws), .no, .im ((encT Val.int) row), .im ((encT Val.int) other), .no, .no, .im (Val.int so9), .no]) ((law_rows_right_w10 row other) s))) := fun draws row other s h => EvSs.wkN (ess_cons (EvS.to (env2 := [.ow ((encL Val.int) draws), .no, .im ((encT Val.int) row), .im ((encT Val.int) other), .no, .no, .im (Val.int (s + ((row).length : Int))), .no]) (es_setV (ps_set (i := 6) nd_ rfl (by first | exact .inl rfl | exact .inr rfl) (pe_wp _)) (ev_add (ev_v 6 rfl (pv 6)) (ev_lenT m_len (ev_v 2 rfl (pv 2)) (.val _) (.tup _))) (Nat.le_of_ble_eq_true rfl) (nm rfl)) rfl) ess_nil) (.s (.n (.s (.s (.n (.n (.s (.n .nil))))))))
    have law_rows_right_w10_t : ∀ (draws : (List Int)) (row : (List Int)) (other : (List Int)) (s : Int), law_rows_right_w10_cok row other s → EvT (cxOf CX0 P w K mg base ["draws", "script", "row", "other", "by", "hour", "long", "due"] "_law_rows_right" (defScope s_law_rows_right) f_ cdv_ A_ outer_ sh_ H_ E_).nox (whTest (stAt (defBody s_law_rows_right) 3)) [.ow ((encL Val.int) draws), .no, .im ((encT Val.int) row), .im ((encT Val.int) other), .no, .no, .im (Val.int s), .no] (law_rows_right_w10_c row other s) [.ow ((encL Val.int) draws), .no, .im ((encT Val.int) row), .im ((encT Val.int) other), .no, .no, .im (Val.int s), .no] := fun draws row other s h => (EvW.t (ew_and (et_lt (ev_v 6 rfl (pv 6)) (ev_mul h.1 (ev_lenT m_len (ev_v 2 rfl (pv 2)) (.val _) (.tup _)) (ev_lenT m_len (ev_v 3 rfl (pv 3)) (.val _) (.tup _)))) (fun hb11 => (ew_and1 (et_gt (ev_mod (h.2 hb11) (ev_int1 m_int (ev_v 6 rfl (pv 6))) (ev_lenT m_len (ev_v 3 rfl (pv 3)) (.val _) (.tup _))) ev_int)))))
    have main_ : EvC (cxOf CX0 P w K mg base ["draws", "script", "row", "other", "by", "hour", "long", "due"] "_law_rows_right" (defScope s_law_rows_right) f_ cdv_ A_ outer_ sh_ H_ E_).nox [0] [defBody s_law_rows_right] [.ow ((encL Val.int) draws), .im ((encL Val.int) script), .im ((encT Val.int) row), .im ((encT Val.int) other), .no, .no, .no, .no] (law_rows_right_o (law_rows_right draws script row other)) := (show EvC _ _ _ _ (law_rows_right_o ((if (!(decide ((law_rows_right_e6 draws script row) = ((irange 0 ((row).length : Int)).map (fun x7 => (law_rows_right_e8 draws script row x7)))))) = true then (false, (law_rows_right_e4 draws script).2) else ((decide ((law_rows_right_e19 row other) = (law_rows_right_e18 row other))), (law_rows_right_e4 draws script).2)))) from (ec_cons (EvS.to (env2 := [.ow ((encL Val.int) (law_rows_right_e4 draws script).2), .im ((encL Val.int) script), .im ((encT Val.int) row), .im ((encT Val.int) other), .im (Val.int (law_rows_right_e5 draws script)), .no, .no, .no]) (es_setV (ps_set (i := 4) nd_ rfl (by first | exact .inl rfl | exact .inr rfl) (pe_wp _)) (ev_ixT (f := Val.int) (0 : Int) h.1.2.2 (EvN.frz (en_lst (xs := [Val.int ((law_rows_right_e1 draws).1 - (20 : Int)), Val.int (((law_rows_right_e2 draws script).1 % ((10 : Int) ^ (28 : Nat))) * ((1 : Int) - ((2 : Int) * (law_rows_right_e3 draws script).1)))]) (Nat.le_of_ble_eq_true rfl) (ea_cons (ev_sub (ev_call (C_law_take.pe hr_ (by decide) (by rfl)) (ea_cons (ev_o 0 rfl (pv 0)) (ea_cons ev_int ea_nil)) (.mu rfl (by simp) (.im .nil)) (R_law_take_of draws (40 : Int) h.1.1.1 (rfl : (law_take draws (40 : Int)) = (law_rows_right_e1 draws)))) ev_int) (ea_cons (ev_mul h.1.1.2.2.2 (ev_mod (by decide +kernel) (ev_call (C_law_size.pe hr_ (by decide) (by rfl)) (ea_cons (ev_o 0 rfl (pv 0)) (ea_cons (ev_v 1 rfl (pv 1)) ea_nil)) (.mu rfl (by simp) (.im .nil)) (R_law_size_of (law_rows_right_e1 draws).2 script h.1.1.2.1 (rfl : (law_size (law_rows_right_e1 draws).2 script) = (law_rows_right_e2 draws script)))) (ev_pow (k := 28) ⟨by decide, by decide⟩ ev_int ev_int)) (ev_sub ev_int (ev_mul (.inl (.inl ⟨by decide +kernel, by decide +kernel⟩)) ev_int (ev_call (C_law_take.pe hr_ (by decide) (by rfl)) (ea_cons (ev_o 0 rfl (pv 0)) (ea_cons ev_int ea_nil)) (.mu rfl (by simp) (.im .nil)) (R_law_take_of (law_rows_right_e2 draws script).2 (2 : Int) h.1.1.2.2.1 (rfl : (law_take (law_rows_right_e2 draws script).2 (2 : Int)) = (law_rows_right_e3 draws script))))))) ea_nil)))) (ev_call (C_law_take.pe hr_ (by decide) (by rfl)) (ea_cons (ev_o 0 rfl (pv 0)) (ea_cons ev_int ea_nil)) (.mu rfl (by simp) (.im .nil)) (R_law_take_of (law_rows_right_e3 draws script).2 (2 : Int) h.1.2.1 (rfl : (law_take (law_rows_right_e3 draws script).2 (2 : Int)) = (law_rows_right_e4 draws script)))) (.val _) (.lst _)) (Nat.le_of_ble_eq_true rfl) (nm rfl)) rfl) (ec_ifV law_rows_right_o (t1 := (false, (law_rows_right_e4 draws script).2)) (t0 := ((decide ((law_rows_right_e19 row other) = (law_rows_right_e18 row other))), (law_rows_right_e4 draws script).2)) (et_not (et_val (ev_call ((C_law_same 1).pe hr_ (by decide) (by rfl)) (ea_cons (ev_call (C_turned_row.pe hr_ (by decide) (by rfl)) (ea_cons (ev_v 2 rfl (pv 2)) (ea_cons (ev_v 4 rfl (pv 4)) ea_nil)) (.im (.im .nil)) (R_turned_row_of row (law_rows_right_e5 draws script) h.2.1.1 (rfl : (turned_row row (law_rows_right_e5 draws script)) = (law_rows_right_e6 draws script row)))) (ea_cons (ev_tuple m_tuple (EvN.frz (en_lc0 (own := [("hour", 5)]) rfl nd_ (pi_rangeW1 (by rfl) m_range (pa_wp _)) (blkOk_by rfl) (lcM (vs := List.map (·.2) ([("hour", 5)] : List (Str × Nat))) Val.int Val.int (irange 0 ((row).length : Int)) (fun x7 => (law_rows_right_e8 draws script row x7)) (fun x7 => law_water_ok row (x7 - (law_rows_right_e5 draws script))) (src_w1 (ev_lenT m_len (ev_v 2 rfl (pv 2)) (.val _) (.tup _)) h.2.1.2.1) (fun x7 hx21 => h.2.1.2.2 x7 hx21) fun x7 hx21 ho22 => ⟨_, fun _ _ _ _ _ => (eg_name 5 (pg_name nd_ rfl (by first | exact .inl rfl | exact .inr rfl)) (Nat.le_of_ble_eq_true rfl) (nm rfl)), rfl, fun _ _ _ _ _ => (ev_call (C_law_water.pe hr_ (by decide) (by rfl)) (ea_cons (ev_v 2 rfl (pv 2)) (ea_cons (ev_sub (ev_v 5 rfl (pv 5)) (ev_v 4 rfl (pv 4))) ea_nil)) (.im (.im .nil)) (R_law_water_of row (x7 - (law_rows_right_e5 draws script)) ho22 (rfl : (law_water row (x7 - (law_rows_right_e5 draws script))) = (law_rows_right_e8 draws script row x7))))⟩))) (.val _)) ea_nil)) (.im (.im .nil)) ⟨_, _, _, (ls_T ls_int) (law_rows_right_e6 draws script row) ((irange 0 ((row).length : Int)).map (fun x7 => (law_rows_right_e8 draws script row x7))), rfl, rfl, rfl⟩))) (fun hc20 => (EvC.wkR (ec_last (es_ret ev_bl) rfl) (.s (.n (.n (.n (.n (.n (.n (.n .nil)))))))))) (fun hc20 => (ec_nil (ec_cons (EvS.to (env2 := [.ow ((encL Val.int) (law_rows_right_e4 draws script).2), .im ((encL Val.int) script), .im ((encT Val.int) row), .im ((encT Val.int) other), .im (Val.int (law_rows_right_e5 draws script)), .no, .im (Val.int ((row).length : Int)), .no]) (es_setV (ps_set (i := 6) nd_ rfl (by first | exact .inl rfl | exact .inr rfl) (pe_wp _)) (ev_lenT m_len (ev_v 2 rfl (pv 2)) (.val _) (.tup _)) (Nat.le_of_ble_eq_true rfl) (nm rfl)) rfl) (ec_cons (EvS.to (env2 := [.ow ((encL Val.int) (law_rows_right_e4 draws script).2), .no, .im ((encT Val.int) row), .im ((encT Val.int) other), .no, .no, .im (Val.int (whileS (law_rows_right_w10_c row other) (law_rows_right_w10 row other) (((other)).length + 1) ((row).length : Int))), .no]) (EvS.wk0 (.s (.n (.s (.s (.n (.n (.s (.n .nil)))))))) (es_whileS (fun so9 : Int => [.ow ((encL Val.int) (law_rows_right_e4 draws script).2), .no, .im ((encT Val.int) row), .im ((encT Val.int) other), .no, .no, .im (Val.int so9), .no]) (law_rows_right_w10_c row other) (law_rows_right_w10 row other) (law_rows_right_w10_cok row other) (law_rows_right_w10_ok row other) (((other)).length + 1) ((row).length : Int) PassesOwn.never (h.2.2 hc20).1 (fun st_ ho_ => law_rows_right_w10_t (law_rows_right_e4 draws script).2 row other st_ ho_) (fun st_ ho_ hc_ => law_rows_right_w10_b (law_rows_right_e4 draws script).2 row other st_ ho_))) rfl) (ec_cons (EvS.to (env2 := [.ow ((encL Val.int) (law_rows_right_e4 draws script).2), .no, .im ((encT Val.int) row), .im ((encT Val.int) other), .no, .no, .im (Val.int (whileS (law_rows_right_w10_c row other) (law_rows_right_w10 row other) (((other)).length + 1) ((row).length : Int))), .im ((encO (encT Val.int)) (law_rows_right_e16 row other))]) (es_setV (ps_set (i := 7) nd_ rfl (by first | exact .inl rfl | exact .inr rfl) (pe_wp _)) (ev_tuple m_tuple (EvN.frz (en_lc0 (own := [("hour", 5)]) rfl nd_ (pi_rangeW1 (by rfl) m_range (pa_wp _)) (blkOk_by rfl) (lcM (vs := List.map (·.2) ([("hour", 5)] : List (Str × Nat))) Val.int Val.int (irange 0 (whileS (law_rows_right_w10_c row other) (law_rows_right_w10 row other) (((other)).length + 1) ((row).length : Int))) (fun x13 => ((law_rows_right_e14 row x13) + (law_rows_right_e15 other x13))) (fun x13 => (law_water_ok row x13 ∧ law_water_ok other x13)) (src_w1 (ev_v 6 rfl (pv 6)) (h.2.2 hc20).2.1.1) (fun x13 hx24 => (h.2.2 hc20).2.1.2 x13 hx24) fun x13 hx24 ho25 => ⟨_, fun _ _ _ _ _ => (eg_name 5 (pg_name nd_ rfl (by first | exact .inl rfl | exact .inr rfl)) (Nat.le_of_ble_eq_true rfl) (nm rfl)), rfl, fun _ _ _ _ _ => (ev_add (ev_call (C_law_water.pe hr_ (by decide) (by rfl)) (ea_cons (ev_v 2 rfl (pv 2)) (ea_cons (ev_v 5 rfl (pv 5)) ea_nil)) (.im (.im .nil)) (R_law_water_of row x13 ho25.1 (rfl : (law_water row x13) = (law_rows_right_e14 row x13)))) (ev_call (C_law_water.pe hr_ (by decide) (by rfl)) (ea_cons (ev_v 3 rfl (pv 3)) (ea_cons (ev_v 5 rfl (pv 5)) ea_nil)) (.im (.im .nil)) (R_law_water_of other x13 ho25.2 (rfl : (law_water other x13) = (law_rows_right_e15 other x13)))))⟩))) (.val _)) (Nat.le_of_ble_eq_true rfl) (nm rfl)) rfl) (ec_cons (EvS.to (env2 := [.ow ((encL Val.int) (law_rows_right_e4 draws script).2), .no, .im ((encT Val.int) row), .im ((encT Val.int) other), .no, .no, .no, .im ((encO (encT Val.int)) (law_rows_right_e18 row other))]) (es_ifJ (fun j17 : (Option (List Int)) => [.ow ((encL Val.int) (law_rows_right_e4 draws script).2), .no, .im ((encT Val.int) row), .im ((encT Val.int) other), .no, .no, .no, .im ((encO (encT Val.int)) j17)]) (t1 := (none : (Option (List Int)))) (t0 := (law_rows_right_e16 row other)) (et_gt (ev_v 6 rfl (pv 6)) ev_int) (fun hc27 => EvSs.wkN (ess_cons (EvS.to (env2 := [.ow ((encL Val.int) (law_rows_right_e4 draws script).2), .no, .im ((encT Val.int) row), .im ((encT Val.int) other), .no, .no, .im (Val.int (whileS (law_rows_right_w10_c row other) (law_rows_right_w10 row other) (((other)).length + 1) ((row).length : Int))), .im ((encO (encT Val.int)) (none : (Option (List Int))))]) (es_setV (ps_set (i := 7) nd_ rfl (by first | exact .inl rfl | exact .inr rfl) (pe_wp _)) ev_non (Nat.le_of_ble_eq_true rfl) (nm rfl)) rfl) ess_nil) (.s (.n (.s (.s (.n (.n (.n (.s .nil))))))))) (fun hc27 => EvSs.wkN ess_nil (.s (.n (.s (.s (.n (.n (.n (.s .nil)))))))))) rfl) (EvC.wkR (ec_last (es_ret (ev_call ((C_law_same 1).pe hr_ (by decide) (by rfl)) (ea_cons (ev_call (C_both_rows.pe hr_ (by decide) (by rfl)) (ea_cons (ev_v 2 rfl (pv 2)) (ea_cons (ev_v 3 rfl (pv 3)) ea_nil)) (.im (.im .nil)) (R_both_rows_of row other (h.2.2 hc20).2.2 (rfl : (both_rows row other) = (law_rows_right_e19 row other)))) (ea_cons (ev_v 7 rfl (pv 7)) ea_nil)) (.im (.im .nil)) ⟨_, _, _, (ls_O (ls_T ls_int) sn_T) (law_rows_right_e19 row other) (law_rows_right_e18 row other), rfl, rfl, rfl⟩)) rfl) (.s (.n (.n (.n (.n (.n (.n (.n .nil))))))))))))))))))
    exact ⟨_, EvC.ss main_, law_rows_right_oo (law_rows_right draws script row other) draws script row other⟩
/-! law -/
abbrev s_law_ : Stmt := topS 21
theorem sc_law_ : FnScope ["script", "draws", "most", "row", "by", "other", "far"] ["script"] (defScope s_law_) := ⟨rfl, rfl, rfl, by decide +kernel, rfl, by decide +kernel, by decide +kernel⟩
def law__e1 (script : (List Int)) : (List Int) := (law_draws script (420 : Int))
def law__e4 (s : ((List Int))) (x : Int) : Int × (List Int) := (law_take s x)
def law__e5 (script : (List Int)) (s : ((List Int))) (x : Int) : ((List Int) × Int) × (List Int) := (law_tide (law__e4 s x).2 script ((1 : Int) + (law__e4 s x).1))
def law__e6 (script : (List Int)) (s : ((List Int))) (x : Int) : Int × (List Int) := (law_take (law__e5 script s x).2 (24 : Int))
def law__e7 (script : (List Int)) (s : ((List Int))) (x : Int) : ((List Int) × Int) × (List Int) := (law_tide (law__e6 script s x).2 script ((1 : Int) + (law__e6 script s x).1))
def law__e8 (script : (List Int)) (s : ((List Int))) (x : Int) : Bool × (List Int) := (law_hours_right (law__e7 script s x).2 script (law__e5 script s x).1.1 (law__e5 script s x).1.2)
def law__e9 (script : (List Int)) (s : ((List Int))) (x : Int) : Bool × (List Int) := (law_rows_right (law__e8 script s x).2 script (law__e5 script s x).1.1 (law__e7 script s x).1.1)
def law__e11 (script : (List Int)) (s : ((List Int))) (x : Int) : Bool × (List Int) := (if (!(law__e8 script s x).1) = true then (true, (law__e8 script s x).2) else ((!(law__e9 script s x).1), (law__e9 script s x).2))
def law__f3 (script : (List Int)) (s : (List Int)) (x : Int) : LO ((List Int)) (Bool) := (if (law__e11 script s x).1 = true then LO.rt false else LO.nx (law__e11 script s x).2)
def law__f3_ok (script : (List Int)) (s : (List Int)) (x : Int) : Prop := ((law_take_ok s x ∧ law_tide_ok (law__e4 s x).2 script ((1 : Int) + (law__e4 s x).1)) ∧ ((law_take_ok (law__e5 script s x).2 (24 : Int) ∧ law_tide_ok (law__e6 script s x).2 script ((1 : Int) + (law__e6 script s x).1)) ∧ (law_hours_right_ok (law__e7 script s x).2 script (law__e5 script s x).1.1 (law__e5 script s x).1.2 ∧ ((!(law__e8 script s x).1) = false → law_rows_right_ok (law__e8 script s x).2 script (law__e5 script s x).1.1 (law__e7 script s x).1.1))))
def law__e15  : Int := (water_at ([(3 : Int), (5 : Int), (4 : Int), (1 : Int)] : List Int) (-(1 : Int)))
def law__e16  : (Option Int) := (next_at_least ([(3 : Int), (5 : Int), (4 : Int), (1 : Int)] : List Int) (2 : Int) (5 : Int))
def law__e17  : (Option Int) := (next_at_least ([(3 : Int), (5 : Int), (4 : Int), (1 : Int)] : List Int) (0 : Int) (6 : Int))
def law__e18  : (List Int) := (hours_shut ([(3 : Int), (5 : Int), (4 : Int), (1 : Int)] : List Int) (4 : Int) (-(1 : Int)) (4 : Int))
def law__e19  : ((Option Int) × Int) := (highest_in ([(3 : Int), (5 : Int), (4 : Int), (1 : Int)] : List Int) (2 : Int) (9 : Int))
def law__e20  : (Option Int) := (longest_window ([(3 : Int), (5 : Int), (4 : Int), (1 : Int)] : List Int) (3 : Int))
def law__e21  : (Option Int) := (longest_window ([(4 : Int), (1 : Int), (4 : Int)] : List Int) (4 : Int))
def law__e22  : (Option Int) := (longest_window ([(3 : Int), (5 : Int), (4 : Int), (1 : Int)] : List Int) (1 : Int))
def law__e23  : (List Int) := (turned_row ([(3 : Int), (5 : Int), (4 : Int), (1 : Int)] : List Int) (1 : Int))
def law__e24  : (Option (List Int)) := (both_rows ([(1 : Int), (2 : Int)] : List Int) ([(0 : Int), (0 : Int), (5 : Int)] : List Int))
def law__e25  : (Option (List Int)) := (both_rows ([(1 : Int), (2 : Int)] : List Int) ([(3 : Int), (4 : Int)] : List Int))
def law__e26  : (Option (List Int)) := (both_rows (repT ([(1 : Int)] : List Int) (21 : Int)) (repT ([(1 : Int)] : List Int) (20 : Int)))
def law__e27  : (Option Int) := (longest_window ([(3 : Int), (5 : Int), (4 : Int), (1 : Int)] : List Int) (9 : Int))
def law__e28  : (Option (List Int)) := (both_rows (repT ([(1 : Int)] : List Int) (20 : Int)) (repT ([(2 : Int)] : List Int) (400 : Int)))
def law__e29  : (List Int) := (hours_shut ([(3 : Int), (5 : Int), (4 : Int), (1 : Int)] : List Int) (9 : Int) (3 : Int) (3 : Int))
def law_ (script : (List Int)) : (Bool) := (afterL (loopL (law__f3 script) (law__e1 script) ([(4 : Int), (24 : Int), (9 : Int)] : List Int)) (fun so2 => (if ((!(decide (law__e15 = (1 : Int)))) || ((!(decide (law__e16 = (some (5 : Int))))) || ((law__e17).isSome || (!(decide (law__e18 = ([(-(1 : Int)), (0 : Int), (3 : Int)] : List Int))))))) = true then false else (if ((!(decide (law__e19 = ((some (5 : Int)), (5 : Int))))) || ((!(decide (law__e20 = (some (3 : Int))))) || ((!(decide (law__e21 = (some (2 : Int))))) || (law__e22).isSome))) = true then false else (if ((!(decide (law__e23 = ([(1 : Int), (3 : Int), (5 : Int), (4 : Int)] : List Int)))) || ((!(decide (law__e24 = (some ([(1 : Int), (2 : Int), (6 : Int), (2 : Int), (1 : Int), (7 : Int)] : List Int))))) || (!(decide (law__e25 = (some ([(4 : Int), (6 : Int)] : List Int))))))) = true then false else ((law__e26).isNone && ((decide (law__e27 = (some (0 : Int)))) && ((decide (law__e28 = (some (repT ([(3 : Int)] : List Int) (400 : Int))))) && (decide (law__e29 = ([] : List Int)))))))))) (fun r30 => r30))
def law__ok (script : (List Int)) : Prop := (law_draws_ok script (420 : Int) ∧ (loopOk (law__f3 script) (law__f3_ok script) (law__e1 script) ([(4 : Int), (24 : Int), (9 : Int)] : List Int) ∧ (∀ so2, (loopL (law__f3 script) (law__e1 script) ([(4 : Int), (24 : Int), (9 : Int)] : List Int)) = .inl so2 → ((water_at_ok ([(3 : Int), (5 : Int), (4 : Int), (1 : Int)] : List Int) (-(1 : Int)) ∧ ((!(decide (law__e15 = (1 : Int)))) = false → next_at_least_ok ([(3 : Int), (5 : Int), (4 : Int), (1 : Int)] : List Int) (2 : Int) (5 : Int)) ∧ ((!(decide (law__e15 = (1 : Int)))) = false → ((!(decide (law__e16 = (some (5 : Int))))) = false → next_at_least_ok ([(3 : Int), (5 : Int), (4 : Int), (1 : Int)] : List Int) (0 : Int) (6 : Int))) ∧ ((!(decide (law__e15 = (1 : Int)))) = false → ((!(decide (law__e16 = (some (5 : Int))))) = false → ((law__e17).isSome = false → hours_shut_ok ([(3 : Int), (5 : Int), (4 : Int), (1 : Int)] : List Int) (4 : Int) (-(1 : Int)) (4 : Int))))) ∧ (((!(decide (law__e15 = (1 : Int)))) || ((!(decide (law__e16 = (some (5 : Int))))) || ((law__e17).isSome || (!(decide (law__e18 = ([(-(1 : Int)), (0 : Int), (3 : Int)] : List Int))))))) = false → ((highest_in_ok ([(3 : Int), (5 : Int), (4 : Int), (1 : Int)] : List Int) (2 : Int) (9 : Int) ∧ ((!(decide (law__e19 = ((some (5 : Int)), (5 : Int))))) = false → longest_window_ok ([(3 : Int), (5 : Int), (4 : Int), (1 : Int)] : List Int) (3 : Int)) ∧ ((!(decide (law__e19 = ((some (5 : Int)), (5 : Int))))) = false → ((!(decide (law__e20 = (some (3 : Int))))) = false → longest_window_ok ([(4 : Int), (1 : Int), (4 : Int)] : List Int) (4 : Int))) ∧ ((!(decide (law__e19 = ((some (5 : Int)), (5 : Int))))) = false → ((!(decide (law__e20 = (some (3 : Int))))) = false → ((!(decide (law__e21 = (some (2 : Int))))) = false → longest_window_ok ([(3 : Int), (5 : Int), (4 : Int), (1 : Int)] : List Int) (1 : Int))))) ∧ (((!(decide (law__e19 = ((some (5 : Int)), (5 : Int))))) || ((!(decide (law__e20 = (some (3 : Int))))) || ((!(decide (law__e21 = (some (2 : Int))))) || (law__e22).isSome))) = false → ((turned_row_ok ([(3 : Int), (5 : Int), (4 : Int), (1 : Int)] : List Int) (1 : Int) ∧ ((!(decide (law__e23 = ([(1 : Int), (3 : Int), (5 : Int), (4 : Int)] : List Int)))) = false → both_rows_ok ([(1 : Int), (2 : Int)] : List Int) ([(0 : Int), (0 : Int), (5 : Int)] : List Int)) ∧ ((!(decide (law__e23 = ([(1 : Int), (3 : Int), (5 : Int), (4 : Int)] : List Int)))) = false → ((!(decide (law__e24 = (some ([(1 : Int), (2 : Int), (6 : Int), (2 : Int), (1 : Int), (7 : Int)] : List Int))))) = false → both_rows_ok ([(1 : Int), (2 : Int)] : List Int) ([(3 : Int), (4 : Int)] : List Int)))) ∧ (((!(decide (law__e23 = ([(1 : Int), (3 : Int), (5 : Int), (4 : Int)] : List Int)))) || ((!(decide (law__e24 = (some ([(1 : Int), (2 : Int), (6 : Int), (2 : Int), (1 : Int), (7 : Int)] : List Int))))) || (!(decide (law__e25 = (some ([(4 : Int), (6 : Int)] : List Int))))))) = false → (((([(1 : Int)] : List Int) ≠ [] ∧ (2 ≤ (21 : Int) ∧ (21 : Int) ≤ 1000) ∧ (([(1 : Int)] : List Int)).length ≤ 1000) ∧ (([(1 : Int)] : List Int) ≠ [] ∧ (2 ≤ (20 : Int) ∧ (20 : Int) ≤ 1000) ∧ (([(1 : Int)] : List Int)).length ≤ 1000) ∧ both_rows_ok (repT ([(1 : Int)] : List Int) (21 : Int)) (repT ([(1 : Int)] : List Int) (20 : Int))) ∧ ((law__e26).isNone = true → longest_window_ok ([(3 : Int), (5 : Int), (4 : Int), (1 : Int)] : List Int) (9 : Int)) ∧ ((law__e26).isNone = true → ((decide (law__e27 = (some (0 : Int)))) = true → (((([(1 : Int)] : List Int) ≠ [] ∧ (2 ≤ (20 : Int) ∧ (20 : Int) ≤ 1000) ∧ (([(1 : Int)] : List Int)).length ≤ 1000) ∧ (([(2 : Int)] : List Int) ≠ [] ∧ (2 ≤ (400 : Int) ∧ (400 : Int) ≤ 1000) ∧ (([(2 : Int)] : List Int)).length ≤ 1000) ∧ both_rows_ok (repT ([(1 : Int)] : List Int) (20 : Int)) (repT ([(2 : Int)] : List Int) (400 : Int))) ∧ (([(3 : Int)] : List Int) ≠ [] ∧ (2 ≤ (400 : Int) ∧ (400 : Int) ≤ 1000) ∧ (([(3 : Int)] : List Int)).length ≤ 1000)))) ∧ ((law__e26).isNone = true → ((decide (law__e27 = (some (0 : Int)))) = true → ((decide (law__e28 = (some (repT ([(3 : Int)] : List Int) (400 : Int))))) = true → hours_shut_ok ([(3 : Int), (5 : Int), (4 : Int), (1 : Int)] : List Int) (9 : Int) (3 : Int) (3 : Int))))))))))))))
def law__o (t : (Bool)) : Out := .rt (.im (Val.bl t)) [.no, .no, .no, .no, .no, .no, .no]
theorem law__oo (t : (Bool)) (script : (List Int)) : OutOk [.im ((encL Val.int) script)] (.im (Val.bl t)) [.im ((encL Val.int) script)] (law__o t) := by
  exact ⟨rfl, OE.ok (.im .nil)⟩
def R_law_ : Rel := fun args_ r_ outs_ => ∃ (script : (List Int)), law__ok script ∧ args_ = [.im ((encL Val.int) script)] ∧ r_ = .im (Val.bl (law_ script)) ∧ outs_ = [.im ((encL Val.int) script)]
theorem R_law__of (script : (List Int)) {v_ : (Bool)} (h : law__ok script) (e : law_ script = v_) : R_law_ [.im ((encL Val.int) script)] (.im (Val.bl v_)) [.im ((encL Val.int) script)] := by subst e; exact ⟨script, h, rfl, rfl, rfl⟩
set_option maxHeartbeats 2000000 in
theorem ok_law_ {f : Addr} {fd : FuncData} (D : Fun K "law" "law" s_law_ f fd)  (C_law_draws : CalOk P w K mg base "_law_draws" ["script", "many"] 1 R_law_draws) (C_law_tide : CalOk P w K mg base "_law_tide" ["draws", "script", "many"] 3 R_law_tide) (C_law_take : CalOk P w K mg base "_law_take" ["draws", "many"] 1 R_law_take) (C_law_hours_right : CalOk P w K mg base "_law_hours_right" ["draws", "script", "row", "by"] 4 R_law_hours_right) (C_law_rows_right : CalOk P w K mg base "_law_rows_right" ["draws", "script", "row", "other"] 3 R_law_rows_right) (C_water_at : CalOk P w K mg base "water_at" ["row", "hour"] 1 R_water_at) (C_law_same : ∀ d, CalOk P w K mg base "_law_same" ["actual", "due"] (d + 1) (R_same d)) (C_next_at_least : CalOk P w K mg base "next_at_least" ["row", "hour", "level"] 2 R_next_at_least) (C_hours_shut : CalOk P w K mg base "hours_shut" ["row", "level", "begin", "end"] 2 R_hours_shut) (C_highest_in : CalOk P w K mg base "highest_in" ["row", "begin", "end"] 3 R_highest_in) (C_longest_window : CalOk P w K mg base "longest_window" ["row", "level"] 2 R_longest_window) (C_turned_row : CalOk P w K mg base "turned_row" ["row", "by"] 2 R_turned_row) (C_both_rows : CalOk P w K mg base "both_rows" ["one", "other"] 2 R_both_rows) : FnOk P w K mg base CX0 5 f fd ["script"] (SpOf K R_law_) := by
  refine def_ok D sc_law_ (by decide) (fun args r outs h => ?_) (fun cdv_ A_ outer_ sh_ H_ E_ hr_ args r outs h => ?_)
  · obtain ⟨script, h, rfl, rfl, rfl⟩ := h; exact len_of rfl rfl
  · obtain ⟨script, h, rfl, rfl, rfl⟩ := h
    have nd_ := sc_law_.nd
    have hu64_ := hu64 hr_; have hu65_ := hu65 hr_
    have law__f3_b : ∀ (script : (List Int)) (s : (List Int)) (x : Int), law__f3_ok script s x → ∃ envt, EvG (cxOf CX0 P w K mg base ["script", "draws", "most", "row", "by", "other", "far"] "law" (defScope s_law_) f cdv_ A_ outer_ sh_ H_ E_).nox [] (forTg (stAt (defBody s_law_) 1)) (Val.int x) [.im ((encL Val.int) script), .ow ((encL Val.int) s), .no, .no, .no, .no, .no] envt ∧ EvSs (cxOf CX0 P w K mg base ["script", "draws", "most", "row", "by", "other", "far"] "law" (defScope s_law_) f cdv_ A_ outer_ sh_ H_ E_).nox [] (loopBody (stAt (defBody s_law_) 1)) envt (outLO (fun so2 : (List Int) => [.im ((encL Val.int) script), .ow ((encL Val.int) so2), .no, .no, .no, .no, .no]) law__o ((law__f3 script) s x)) := fun script s x h => ⟨_, (eg_name 2 (pg_name nd_ rfl (by first | exact .inl rfl | exact .inr rfl)) (Nat.le_of_ble_eq_true rfl) (nm rfl)), EvC.ss (ec_cons (EvS.to (env2 := [.im ((encL Val.int) script), .ow ((encL Val.int) (law__e5 script s x).2), .im (Val.int x), .im ((encT Val.int) (law__e5 script s x).1.1), .im (Val.int (law__e5 script s x).1.2), .no, .no]) (es_asg (ps_asg (pe_wp _) (pg_wp _)) (Ev.r (ev_call (C_law_tide.pe hr_ (by decide) (by rfl)) (ea_cons (ev_o 1 rfl (pv 1)) (ea_cons (ev_v 0 rfl (pv 0)) (ea_cons (ev_add ev_int (ev_call (C_law_take.pe hr_ (by decide) (by rfl)) (ea_cons (ev_o 1 rfl (pv 1)) (ea_cons (ev_v 2 rfl (pv 2)) ea_nil)) (.mu rfl (by simp) (.im .nil)) (R_law_take_of s x h.1.1 (rfl : (law_take s x) = (law__e4 s x))))) ea_nil))) (.mu rfl (by simp) (.im (.im .nil))) (R_law_tide_of (law__e4 s x).2 script ((1 : Int) + (law__e4 s x).1) h.1.2 (rfl : (law_tide (law__e4 s x).2 script ((1 : Int) + (law__e4 s x).1)) = (law__e5 script s x))))) (eg_tup rfl (egs_cons (eg_name 3 (pg_name nd_ rfl (by first | exact .inl rfl | exact .inr rfl)) (Nat.le_of_ble_eq_true rfl) (nm rfl)) (egs_cons (eg_name 4 (pg_name nd_ rfl (by first | exact .inl rfl | exact .inr rfl)) (Nat.le_of_ble_eq_true rfl) (nm rfl)) egs_nil)) rfl)) rfl) (ec_cons (EvS.to (env2 := [.im ((encL Val.int) script), .ow ((encL Val.int) (law__e7 script s x).2), .im (Val.int x), .im ((encT Val.int) (law__e5 script s x).1.1), .im (Val.int (law__e5 script s x).1.2), .im ((encT Val.int) (law__e7 script s x).1.1), .im (Val.int (law__e7 script s x).1.2)]) (es_asg (ps_asg (pe_wp _) (pg_wp _)) (Ev.r (ev_call (C_law_tide.pe hr_ (by decide) (by rfl)) (ea_cons (ev_o 1 rfl (pv 1)) (ea_cons (ev_v 0 rfl (pv 0)) (ea_cons (ev_add ev_int (ev_call (C_law_take.pe hr_ (by decide) (by rfl)) (ea_cons (ev_o 1 rfl (pv 1)) (ea_cons ev_int ea_nil)) (.mu rfl (by simp) (.im .nil)) (R_law_take_of (law__e5 script s x).2 (24 : Int) h.2.1.1 (rfl : (law_take (law__e5 script s x).2 (24 : Int)) = (law__e6 script s x))))) ea_nil))) (.mu rfl (by simp) (.im (.im .nil))) (R_law_tide_of (law__e6 script s x).2 script ((1 : Int) + (law__e6 script s x).1) h.2.1.2 (rfl : (law_tide (law__e6 script s x).2 script ((1 : Int) + (law__e6 script s x).1)) = (law__e7 script s x))))) (eg_tup rfl (egs_cons (eg_name 5 (pg_name nd_ rfl (by first | exact .inl rfl | exact .inr rfl)) (Nat.le_of_ble_eq_true rfl) (nm rfl)) (egs_cons (eg_name 6 (pg_name nd_ rfl (by first | exact .inl rfl | exact .inr rfl)) (Nat.le_of_ble_eq_true rfl) (nm rfl)) egs_nil)) rfl)) rfl) (ec_ifV (outLO (fun so2 : (List Int) => [.im ((encL Val.int) script), .ow ((encL Val.int) so2), .no, .no, .no, .no, .no]) law__o) (t1 := LO.rt false) (t0 := LO.nx (law__e11 script s x).2) (EvT.to (q := (law__e11 script s x).1) (env2 := [.im ((encL Val.int) script), .ow ((encL Val.int) (law__e11 script s x).2), .im (Val.int x), .im ((encT Val.int) (law__e5 script s x).1.1), .im (Val.int (law__e5 script s x).1.2), .im ((encT Val.int) (law__e7 script s x).1.1), .im (Val.int (law__e7 script s x).1.2)]) (EvW.t (ew_orS (E := ((!(law__e9 script s x).1), (law__e9 script s x).2)) (fun so10 : (List Int) => [.im ((encL Val.int) script), .ow ((encL Val.int) so10), .im (Val.int x), .im ((encT Val.int) (law__e5 script s x).1.1), .im (Val.int (law__e5 script s x).1.2), .im ((encT Val.int) (law__e7 script s x).1.1), .im (Val.int (law__e7 script s x).1.2)]) (EvT.to (env2 := (fun so10 : (List Int) => [.im ((encL Val.int) script), .ow ((encL Val.int) so10), .im (Val.int x), .im ((encT Val.int) (law__e5 script s x).1.1), .im (Val.int (law__e5 script s x).1.2), .im ((encT Val.int) (law__e7 script s x).1.1), .im (Val.int (law__e7 script s x).1.2)]) (law__e8 script s x).2) (et_not (et_val (ev_call (C_law_hours_right.pe hr_ (by decide) (by rfl)) (ea_cons (ev_o 1 rfl (pv 1)) (ea_cons (ev_v 0 rfl (pv 0)) (ea_cons (ev_v 3 rfl (pv 3)) (ea_cons (ev_v 4 rfl (pv 4)) ea_nil)))) (.mu rfl (by simp) (.im (.im (.im .nil)))) (R_law_hours_right_of (law__e7 script s x).2 script (law__e5 script s x).1.1 (law__e5 script s x).1.2 h.2.2.1 (rfl : (law_hours_right (law__e7 script s x).2 script (law__e5 script s x).1.1 (law__e5 script s x).1.2) = (law__e8 script s x)))))) rfl rfl) (fun hb13 => (ew_or1 (EvT.to (env2 := (fun so10 : (List Int) => [.im ((encL Val.int) script), .ow ((encL Val.int) so10), .im (Val.int x), .im ((encT Val.int) (law__e5 script s x).1.1), .im (Val.int (law__e5 script s x).1.2), .im ((encT Val.int) (law__e7 script s x).1.1), .im (Val.int (law__e7 script s x).1.2)]) (law__e9 script s x).2) (et_not (et_val (ev_call (C_law_rows_right.pe hr_ (by decide) (by rfl)) (ea_cons (ev_o 1 rfl (pv 1)) (ea_cons (ev_v 0 rfl (pv 0)) (ea_cons (ev_v 3 rfl (pv 3)) (ea_cons (ev_v 5 rfl (pv 5)) ea_nil)))) (.mu rfl (by simp) (.im (.im (.im .nil)))) (R_law_rows_right_of (law__e8 script s x).2 script (law__e5 script s x).1.1 (law__e7 script s x).1.1 (h.2.2.2 hb13) (rfl : (law_rows_right (law__e8 script s x).2 script (law__e5 script s x).1.1 (law__e7 script s x).1.1) = (law__e9 script s x)))))) rfl rfl))))) rfl rfl) (fun hc12 => (EvC.wkR (ec_last (es_ret ev_bl) rfl) (.n (.n (.n (.n (.n (.n (.n .nil))))))))) (fun hc12 => (ec_nil (ec_nil (EvC.wkN ec_end (.s (.s (.n (.n (.n (.n (.n .nil))))))))))))))⟩
    have main_ : EvC (cxOf CX0 P w K mg base ["script", "draws", "most", "row", "by", "other", "far"] "law" (defScope s_law_) f cdv_ A_ outer_ sh_ H_ E_).nox [] [defBody s_law_] [.im ((encL Val.int) script), .no, .no, .no, .no, .no, .no] (law__o (law_ script)) := (show EvC _ _ _ _ (law__o ((afterL (loopL (law__f3 script) (law__e1 script) ([(4 : Int), (24 : Int), (9 : Int)] : List Int)) (fun so2 => (if ((!(decide (law__e15 = (1 : Int)))) || ((!(decide (law__e16 = (some (5 : Int))))) || ((law__e17).isSome || (!(decide (law__e18 = ([(-(1 : Int)), (0 : Int), (3 : Int)] : List Int))))))) = true then false else (if ((!(decide (law__e19 = ((some (5 : Int)), (5 : Int))))) || ((!(decide (law__e20 = (some (3 : Int))))) || ((!(decide (law__e21 = (some (2 : Int))))) || (law__e22).isSome))) = true then false else (if ((!(decide (law__e23 = ([(1 : Int), (3 : Int), (5 : Int), (4 : Int)] : List Int)))) || ((!(decide (law__e24 = (some ([(1 : Int), (2 : Int), (6 : Int), (2 : Int), (1 : Int), (7 : Int)] : List Int))))) || (!(decide (law__e25 = (some ([(4 : Int), (6 : Int)] : List Int))))))) = true then false else ((law__e26).isNone && ((decide (law__e27 = (some (0 : Int)))) && ((decide (law__e28 = (some (repT ([(3 : Int)] : List Int) (400 : Int))))) && (decide (law__e29 = ([] : List Int)))))))))) (fun r30 => r30)))) from (ec_cons (EvS.to (env2 := [.im ((encL Val.int) script), .ow ((encL Val.int) (law__e1 script)), .no, .no, .no, .no, .no]) (es_setO (ps_set (i := 1) nd_ rfl (by first | exact .inl rfl | exact .inr rfl) (pe_wp _)) (en_call (C_law_draws.pe hr_ (by decide) (by rfl)) (ea_cons (ev_v 0 rfl (pv 0)) (ea_cons ev_int ea_nil)) (.im (.im .nil)) (R_law_draws_of script (420 : Int) h.1 (rfl : (law_draws script (420 : Int)) = (law__e1 script)))) (Nat.le_of_ble_eq_true rfl) (nm rfl)) rfl) (ec_loop law__o (k := fun so2 => (if ((!(decide (law__e15 = (1 : Int)))) || ((!(decide (law__e16 = (some (5 : Int))))) || ((law__e17).isSome || (!(decide (law__e18 = ([(-(1 : Int)), (0 : Int), (3 : Int)] : List Int))))))) = true then false else (if ((!(decide (law__e19 = ((some (5 : Int)), (5 : Int))))) || ((!(decide (law__e20 = (some (3 : Int))))) || ((!(decide (law__e21 = (some (2 : Int))))) || (law__e22).isSome))) = true then false else (if ((!(decide (law__e23 = ([(1 : Int), (3 : Int), (5 : Int), (4 : Int)] : List Int)))) || ((!(decide (law__e24 = (some ([(1 : Int), (2 : Int), (6 : Int), (2 : Int), (1 : Int), (7 : Int)] : List Int))))) || (!(decide (law__e25 = (some ([(4 : Int), (6 : Int)] : List Int))))))) = true then false else ((law__e26).isNone && ((decide (law__e27 = (some (0 : Int)))) && ((decide (law__e28 = (some (repT ([(3 : Int)] : List Int) (400 : Int))))) && (decide (law__e29 = ([] : List Int)))))))))) (r := (fun r30 => r30)) (es_forL (envS := (fun so2 : (List Int) => [.im ((encL Val.int) script), .ow ((encL Val.int) so2), .no, .no, .no, .no, .no])) (outR := law__o) (fun _ => isRt) (law__f3 script) (law__f3_ok script) Val.int ([(4 : Int), (24 : Int), (9 : Int)] : List Int) (law__e1 script) rfl PassesOwn.never (Ev.wk (EvN.frz (en_lst (xs := [Val.int (4 : Int), Val.int (24 : Int), Val.int (9 : Int)]) (Nat.le_of_ble_eq_true rfl) (ea_cons ev_int (ea_cons ev_int (ea_cons ev_int ea_nil))))) (.s (.s (.n (.n (.n (.n (.n .nil)))))))) (.lst _) h.2.1 (fun st_ xt_ hx_ ho_ => law__f3_b script st_ xt_ ho_)) (fun so2 hs31 => EvC.ren (env1 := [.im ((encL Val.int) script), .ow ((encL Val.int) so2), .no, .no, .no, .no, .no]) (ec_cons (EvS.to (env2 := [.im ((encL Val.int) script), .ow ((encL Val.int) so2), .no, .im ((encT Val.int) ([(3 : Int), (5 : Int), (4 : Int), (1 : Int)] : List Int)), .no, .no, .no]) (es_setV (ps_set (i := 3) nd_ rfl (by first | exact .inl rfl | exact .inr rfl) (pe_wp _)) (ev_tup (xs := [Val.int (3 : Int), Val.int (5 : Int), Val.int (4 : Int), Val.int (1 : Int)]) (Nat.le_of_ble_eq_true rfl) (ea_cons ev_int (ea_cons ev_int (ea_cons ev_int (ea_cons ev_int ea_nil))))) (Nat.le_of_ble_eq_true rfl) (nm rfl)) rfl) (ec_ifV law__o (t1 := false) (t0 := (if ((!(decide (law__e19 = ((some (5 : Int)), (5 : Int))))) || ((!(decide (law__e20 = (some (3 : Int))))) || ((!(decide (law__e21 = (some (2 : Int))))) || (law__e22).isSome))) = true then false else (if ((!(decide (law__e23 = ([(1 : Int), (3 : Int), (5 : Int), (4 : Int)] : List Int)))) || ((!(decide (law__e24 = (some ([(1 : Int), (2 : Int), (6 : Int), (2 : Int), (1 : Int), (7 : Int)] : List Int))))) || (!(decide (law__e25 = (some ([(4 : Int), (6 : Int)] : List Int))))))) = true then false else ((law__e26).isNone && ((decide (law__e27 = (some (0 : Int)))) && ((decide (law__e28 = (some (repT ([(3 : Int)] : List Int) (400 : Int))))) && (decide (law__e29 = ([] : List Int))))))))) (EvW.t (ew_or (et_not (et_val (ev_call ((C_law_same 0).pe hr_ (by decide) (by rfl)) (ea_cons (ev_call (C_water_at.pe hr_ (by decide) (by rfl)) (ea_cons (ev_v 3 rfl (pv 3)) (ea_cons (ev_neg ev_int) ea_nil)) (.im (.im .nil)) (R_water_at_of ([(3 : Int), (5 : Int), (4 : Int), (1 : Int)] : List Int) (-(1 : Int)) (h.2.2 so2 hs31).1.1 (rfl : (water_at ([(3 : Int), (5 : Int), (4 : Int), (1 : Int)] : List Int) (-(1 : Int))) = law__e15))) (ea_cons ev_int ea_nil)) (.im (.im .nil)) ⟨_, _, _, ls_int law__e15 (1 : Int), rfl, rfl, rfl⟩))) (fun hb33 => (ew_or (et_not (et_val (ev_call ((C_law_same 0).pe hr_ (by decide) (by rfl)) (ea_cons (ev_call (C_next_at_least.pe hr_ (by decide) (by rfl)) (ea_cons (ev_v 3 rfl (pv 3)) (ea_cons ev_int (ea_cons ev_int ea_nil))) (.im (.im (.im .nil))) (R_next_at_least_of ([(3 : Int), (5 : Int), (4 : Int), (1 : Int)] : List Int) (2 : Int) (5 : Int) ((h.2.2 so2 hs31).1.2.1 hb33) (rfl : (next_at_least ([(3 : Int), (5 : Int), (4 : Int), (1 : Int)] : List Int) (2 : Int) (5 : Int)) = law__e16))) (ea_cons ev_int ea_nil)) (.im (.im .nil)) ⟨_, _, _, (ls_O ls_int sn_int) law__e16 (some (5 : Int)), rfl, rfl, rfl⟩))) (fun hb34 => (ew_or (et_notNT (f := Val.int) nn_int (ev_call (C_next_at_least.pe hr_ (by decide) (by rfl)) (ea_cons (ev_v 3 rfl (pv 3)) (ea_cons ev_int (ea_cons ev_int ea_nil))) (.im (.im (.im .nil))) (R_next_at_least_of ([(3 : Int), (5 : Int), (4 : Int), (1 : Int)] : List Int) (0 : Int) (6 : Int) ((h.2.2 so2 hs31).1.2.2.1 hb33 hb34) (rfl : (next_at_least ([(3 : Int), (5 : Int), (4 : Int), (1 : Int)] : List Int) (0 : Int) (6 : Int)) = law__e17)))) (fun hb35 => (ew_or1 (et_not (et_val (ev_call ((C_law_same 1).pe hr_ (by decide) (by rfl)) (ea_cons (ev_call (C_hours_shut.pe hr_ (by decide) (by rfl)) (ea_cons (ev_v 3 rfl (pv 3)) (ea_cons ev_int (ea_cons (ev_neg ev_int) (ea_cons ev_int ea_nil)))) (.im (.im (.im (.im .nil)))) (R_hours_shut_of ([(3 : Int), (5 : Int), (4 : Int), (1 : Int)] : List Int) (4 : Int) (-(1 : Int)) (4 : Int) ((h.2.2 so2 hs31).1.2.2.2 hb33 hb34 hb35) (rfl : (hours_shut ([(3 : Int), (5 : Int), (4 : Int), (1 : Int)] : List Int) (4 : Int) (-(1 : Int)) (4 : Int)) = law__e18))) (ea_cons (ev_tup (xs := [Val.int (-(1 : Int)), Val.int (0 : Int), Val.int (3 : Int)]) (Nat.le_of_ble_eq_true rfl) (ea_cons (ev_neg ev_int) (ea_cons ev_int (ea_cons ev_int ea_nil)))) ea_nil)) (.im (.im .nil)) ⟨_, _, _, (ls_T ls_int) law__e18 ([(-(1 : Int)), (0 : Int), (3 : Int)] : List Int), rfl, rfl, rfl⟩))))))))))) (fun hc32 => (EvC.wkR (ec_last (es_ret ev_bl) rfl) (.n (.n (.n (.n (.n (.n (.n .nil))))))))) (fun hc32 => (ec_nil (ec_ifV law__o (t1 := false) (t0 := (if ((!(decide (law__e23 = ([(1 : Int), (3 : Int), (5 : Int), (4 : Int)] : List Int)))) || ((!(decide (law__e24 = (some ([(1 : Int), (2 : Int), (6 : Int), (2 : Int), (1 : Int), (7 : Int)] : List Int))))) || (!(decide (law__e25 = (some ([(4 : Int), (6 : Int)] : List Int))))))) = true then false else ((law__e26).isNone && ((decide (law__e27 = (some (0 : Int)))) && ((decide (law__e28 = (some (repT ([(3 : Int)] : List Int) (400 : Int))))) && (decide (law__e29 = ([] : List Int)))))))) (EvW.t (ew_or (et_not (et_val (ev_call ((C_law_same 1).pe hr_ (by decide) (by rfl)) (ea_cons (ev_call (C_highest_in.pe hr_ (by decide) (by rfl)) (ea_cons (ev_v 3 rfl (pv 3)) (ea_cons ev_int (ea_cons ev_int ea_nil))) (.im (.im (.im .nil))) (R_highest_in_of ([(3 : Int), (5 : Int), (4 : Int), (1 : Int)] : List Int) (2 : Int) (9 : Int) ((h.2.2 so2 hs31).2 hc32).1.1 (rfl : (highest_in ([(3 : Int), (5 : Int), (4 : Int), (1 : Int)] : List Int) (2 : Int) (9 : Int)) = law__e19))) (ea_cons (ev_tup (xs := [(encO Val.int) (some (5 : Int)), Val.int (5 : Int)]) (Nat.le_of_ble_eq_true rfl) (ea_cons ev_int (ea_cons ev_int ea_nil))) ea_nil)) (.im (.im .nil)) ⟨_, _, _, (ls_2 (ls_O ls_int sn_int) ls_int) law__e19 ((some (5 : Int)), (5 : Int)), rfl, rfl, rfl⟩))) (fun hb38 => (ew_or (et_not (et_val (ev_call ((C_law_same 0).pe hr_ (by decide) (by rfl)) (ea_cons (ev_call (C_longest_window.pe hr_ (by decide) (by rfl)) (ea_cons (ev_v 3 rfl (pv 3)) (ea_cons ev_int ea_nil)) (.im (.im .nil)) (R_longest_window_of ([(3 : Int), (5 : Int), (4 : Int), (1 : Int)] : List Int) (3 : Int) (((h.2.2 so2 hs31).2 hc32).1.2.1 hb38) (rfl : (longest_window ([(3 : Int), (5 : Int), (4 : Int), (1 : Int)] : List Int) (3 : Int)) = law__e20))) (ea_cons ev_int ea_nil)) (.im (.im .nil)) ⟨_, _, _, (ls_O ls_int sn_int) law__e20 (some (3 : Int)), rfl, rfl, rfl⟩))) (fun hb39 => (ew_or (et_not (et_val (ev_call ((C_law_same 0).pe hr_ (by decide) (by rfl)) (ea_cons (ev_call (C_longest_window.pe hr_ (by decide) (by rfl)) (ea_cons (ev_tup (xs := [Val.int (4 : Int), Val.int (1 : Int), Val.int (4 : Int)]) (Nat.le_of_ble_eq_true rfl) (ea_cons ev_int (ea_cons ev_int (ea_cons ev_int ea_nil)))) (ea_cons ev_int ea_nil)) (.im (.im .nil)) (R_longest_window_of ([(4 : Int), (1 : Int), (4 : Int)] : List Int) (4 : Int) (((h.2.2 so2 hs31).2 hc32).1.2.2.1 hb38 hb39) (rfl : (longest_window ([(4 : Int), (1 : Int), (4 : Int)] : List Int) (4 : Int)) = law__e21))) (ea_cons ev_int ea_nil)) (.im (.im .nil)) ⟨_, _, _, (ls_O ls_int sn_int) law__e21 (some (2 : Int)), rfl, rfl, rfl⟩))) (fun hb40 => (ew_or1 (et_notNT (f := Val.int) nn_int (ev_call (C_longest_window.pe hr_ (by decide) (by rfl)) (ea_cons (ev_v 3 rfl (pv 3)) (ea_cons ev_int ea_nil)) (.im (.im .nil)) (R_longest_window_of ([(3 : Int), (5 : Int), (4 : Int), (1 : Int)] : List Int) (1 : Int) (((h.2.2 so2 hs31).2 hc32).1.2.2.2 hb38 hb39 hb40) (rfl : (longest_window ([(3 : Int), (5 : Int), (4 : Int), (1 : Int)] : List Int) (1 : Int)) = law__e22)))))))))))) (fun hc37 => (EvC.wkR (ec_last (es_ret ev_bl) rfl) (.n (.n (.n (.n (.n (.n (.n .nil))))))))) (fun hc37 => (ec_nil (ec_ifV law__o (t1 := false) (t0 := ((law__e26).isNone && ((decide (law__e27 = (some (0 : Int)))) && ((decide (law__e28 = (some (repT ([(3 : Int)] : List Int) (400 : Int))))) && (decide (law__e29 = ([] : List Int))))))) (EvW.t (ew_or (et_not (et_val (ev_call ((C_law_same 1).pe hr_ (by decide) (by rfl)) (ea_cons (ev_call (C_turned_row.pe hr_ (by decide) (by rfl)) (ea_cons (ev_v 3 rfl (pv 3)) (ea_cons ev_int ea_nil)) (.im (.im .nil)) (R_turned_row_of ([(3 : Int), (5 : Int), (4 : Int), (1 : Int)] : List Int) (1 : Int) (((h.2.2 so2 hs31).2 hc32).2 hc37).1.1 (rfl : (turned_row ([(3 : Int), (5 : Int), (4 : Int), (1 : Int)] : List Int) (1 : Int)) = law__e23))) (ea_cons (ev_tup (xs := [Val.int (1 : Int), Val.int (3 : Int), Val.int (5 : Int), Val.int (4 : Int)]) (Nat.le_of_ble_eq_true rfl) (ea_cons ev_int (ea_cons ev_int (ea_cons ev_int (ea_cons ev_int ea_nil))))) ea_nil)) (.im (.im .nil)) ⟨_, _, _, (ls_T ls_int) law__e23 ([(1 : Int), (3 : Int), (5 : Int), (4 : Int)] : List Int), rfl, rfl, rfl⟩))) (fun hb43 => (ew_or (et_not (et_val (ev_call ((C_law_same 1).pe hr_ (by decide) (by rfl)) (ea_cons (ev_call (C_both_rows.pe hr_ (by decide) (by rfl)) (ea_cons (ev_tup (xs := [Val.int (1 : Int), Val.int (2 : Int)]) (Nat.le_of_ble_eq_true rfl) (ea_cons ev_int (ea_cons ev_int ea_nil))) (ea_cons (ev_tup (xs := [Val.int (0 : Int), Val.int (0 : Int), Val.int (5 : Int)]) (Nat.le_of_ble_eq_true rfl) (ea_cons ev_int (ea_cons ev_int (ea_cons ev_int ea_nil)))) ea_nil)) (.im (.im .nil)) (R_both_rows_of ([(1 : Int), (2 : Int)] : List Int) ([(0 : Int), (0 : Int), (5 : Int)] : List Int) ((((h.2.2 so2 hs31).2 hc32).2 hc37).1.2.1 hb43) (rfl : (both_rows ([(1 : Int), (2 : Int)] : List Int) ([(0 : Int), (0 : Int), (5 : Int)] : List Int)) = law__e24))) (ea_cons (ev_tup (xs := [Val.int (1 : Int), Val.int (2 : Int), Val.int (6 : Int), Val.int (2 : Int), Val.int (1 : Int), Val.int (7 : Int)]) (Nat.le_of_ble_eq_true rfl) (ea_cons ev_int (ea_cons ev_int (ea_cons ev_int (ea_cons ev_int (ea_cons ev_int (ea_cons ev_int ea_nil))))))) ea_nil)) (.im (.im .nil)) ⟨_, _, _, (ls_O (ls_T ls_int) sn_T) law__e24 (some ([(1 : Int), (2 : Int), (6 : Int), (2 : Int), (1 : Int), (7 : Int)] : List Int)), rfl, rfl, rfl⟩))) (fun hb44 => (ew_or1 (et_not (et_val (ev_call ((C_law_same 1).pe hr_ (by decide) (by rfl)) (ea_cons (ev_call (C_both_rows.pe hr_ (by decide) (by rfl)) (ea_cons (ev_tup (xs := [Val.int (1 : Int), Val.int (2 : Int)]) (Nat.le_of_ble_eq_true rfl) (ea_cons ev_int (ea_cons ev_int ea_nil))) (ea_cons (ev_tup (xs := [Val.int (3 : Int), Val.int (4 : Int)]) (Nat.le_of_ble_eq_true rfl) (ea_cons ev_int (ea_cons ev_int ea_nil))) ea_nil)) (.im (.im .nil)) (R_both_rows_of ([(1 : Int), (2 : Int)] : List Int) ([(3 : Int), (4 : Int)] : List Int) ((((h.2.2 so2 hs31).2 hc32).2 hc37).1.2.2 hb43 hb44) (rfl : (both_rows ([(1 : Int), (2 : Int)] : List Int) ([(3 : Int), (4 : Int)] : List Int)) = law__e25))) (ea_cons (ev_tup (xs := [Val.int (4 : Int), Val.int (6 : Int)]) (Nat.le_of_ble_eq_true rfl) (ea_cons ev_int (ea_cons ev_int ea_nil))) ea_nil)) (.im (.im .nil)) ⟨_, _, _, (ls_O (ls_T ls_int) sn_T) law__e25 (some ([(4 : Int), (6 : Int)] : List Int)), rfl, rfl, rfl⟩))))))))) (fun hc42 => (EvC.wkR (ec_last (es_ret ev_bl) rfl) (.n (.n (.n (.n (.n (.n (.n .nil))))))))) (fun hc42 => (ec_nil (EvC.wkR (ec_last (es_ret (ev_and (ev_isNT (f := (encT Val.int)) nn_T (ev_call (C_both_rows.pe hr_ (by decide) (by rfl)) (ea_cons (ev_mulTT (f := Val.int) ((((h.2.2 so2 hs31).2 hc32).2 hc37).2 hc42).1.1.1 ((((h.2.2 so2 hs31).2 hc32).2 hc37).2 hc42).1.1.2.1 ((((h.2.2 so2 hs31).2 hc32).2 hc37).2 hc42).1.1.2.2 (ev_tup (xs := [Val.int (1 : Int)]) (Nat.le_of_ble_eq_true rfl) (ea_cons ev_int ea_nil)) ev_int) (ea_cons (ev_mulTT (f := Val.int) ((((h.2.2 so2 hs31).2 hc32).2 hc37).2 hc42).1.2.1.1 ((((h.2.2 so2 hs31).2 hc32).2 hc37).2 hc42).1.2.1.2.1 ((((h.2.2 so2 hs31).2 hc32).2 hc37).2 hc42).1.2.1.2.2 (ev_tup (xs := [Val.int (1 : Int)]) (Nat.le_of_ble_eq_true rfl) (ea_cons ev_int ea_nil)) ev_int) ea_nil)) (.im (.im .nil)) (R_both_rows_of (repT ([(1 : Int)] : List Int) (21 : Int)) (repT ([(1 : Int)] : List Int) (20 : Int)) ((((h.2.2 so2 hs31).2 hc32).2 hc37).2 hc42).1.2.2 (rfl : (both_rows (repT ([(1 : Int)] : List Int) (21 : Int)) (repT ([(1 : Int)] : List Int) (20 : Int))) = law__e26)))) (fun hb46 => (ev_and (ev_call ((C_law_same 0).pe hr_ (by decide) (by rfl)) (ea_cons (ev_call (C_longest_window.pe hr_ (by decide) (by rfl)) (ea_cons (ev_v 3 rfl (pv 3)) (ea_cons ev_int ea_nil)) (.im (.im .nil)) (R_longest_window_of ([(3 : Int), (5 : Int), (4 : Int), (1 : Int)] : List Int) (9 : Int) (((((h.2.2 so2 hs31).2 hc32).2 hc37).2 hc42).2.1 hb46) (rfl : (longest_window ([(3 : Int), (5 : Int), (4 : Int), (1 : Int)] : List Int) (9 : Int)) = law__e27))) (ea_cons ev_int ea_nil)) (.im (.im .nil)) ⟨_, _, _, (ls_O ls_int sn_int) law__e27 (some (0 : Int)), rfl, rfl, rfl⟩) (fun hb47 => (ev_and (ev_call ((C_law_same 1).pe hr_ (by decide) (by rfl)) (ea_cons (ev_call (C_both_rows.pe hr_ (by decide) (by rfl)) (ea_cons (ev_mulTT (f := Val.int) (((((h.2.2 so2 hs31).2 hc32).2 hc37).2 hc42).2.2.1 hb46 hb47).1.1.1 (((((h.2.2 so2 hs31).2 hc32).2 hc37).2 hc42).2.2.1 hb46 hb47).1.1.2.1 (((((h.2.2 so2 hs31).2 hc32).2 hc37).2 hc42).2.2.1 hb46 hb47).1.1.2.2 (ev_tup (xs := [Val.int (1 : Int)]) (Nat.le_of_ble_eq_true rfl) (ea_cons ev_int ea_nil)) ev_int) (ea_cons (ev_mulTT (f := Val.int) (((((h.2.2 so2 hs31).2 hc32).2 hc37).2 hc42).2.2.1 hb46 hb47).1.2.1.1 (((((h.2.2 so2 hs31).2 hc32).2 hc37).2 hc42).2.2.1 hb46 hb47).1.2.1.2.1 (((((h.2.2 so2 hs31).2 hc32).2 hc37).2 hc42).2.2.1 hb46 hb47).1.2.1.2.2 (ev_tup (xs := [Val.int (2 : Int)]) (Nat.le_of_ble_eq_true rfl) (ea_cons ev_int ea_nil)) ev_int) ea_nil)) (.im (.im .nil)) (R_both_rows_of (repT ([(1 : Int)] : List Int) (20 : Int)) (repT ([(2 : Int)] : List Int) (400 : Int)) (((((h.2.2 so2 hs31).2 hc32).2 hc37).2 hc42).2.2.1 hb46 hb47).1.2.2 (rfl : (both_rows (repT ([(1 : Int)] : List Int) (20 : Int)) (repT ([(2 : Int)] : List Int) (400 : Int))) = law__e28))) (ea_cons (ev_mulTT (f := Val.int) (((((h.2.2 so2 hs31).2 hc32).2 hc37).2 hc42).2.2.1 hb46 hb47).2.1 (((((h.2.2 so2 hs31).2 hc32).2 hc37).2 hc42).2.2.1 hb46 hb47).2.2.1 (((((h.2.2 so2 hs31).2 hc32).2 hc37).2 hc42).2.2.1 hb46 hb47).2.2.2 (ev_tup (xs := [Val.int (3 : Int)]) (Nat.le_of_ble_eq_true rfl) (ea_cons ev_int ea_nil)) ev_int) ea_nil)) (.im (.im .nil)) ⟨_, _, _, (ls_O (ls_T ls_int) sn_T) law__e28 (some (repT ([(3 : Int)] : List Int) (400 : Int))), rfl, rfl, rfl⟩) (fun hb48 => (ev_bo1 (ev_call ((C_law_same 1).pe hr_ (by decide) (by rfl)) (ea_cons (ev_call (C_hours_shut.pe hr_ (by decide) (by rfl)) (ea_cons (ev_v 3 rfl (pv 3)) (ea_cons ev_int (ea_cons ev_int (ea_cons ev_int ea_nil)))) (.im (.im (.im (.im .nil)))) (R_hours_shut_of ([(3 : Int), (5 : Int), (4 : Int), (1 : Int)] : List Int) (9 : Int) (3 : Int) (3 : Int) (((((h.2.2 so2 hs31).2 hc32).2 hc37).2 hc42).2.2.2 hb46 hb47 hb48) (rfl : (hours_shut ([(3 : Int), (5 : Int), (4 : Int), (1 : Int)] : List Int) (9 : Int) (3 : Int) (3 : Int)) = law__e29))) (ea_cons (ev_tup (xs := []) (Nat.le_of_ble_eq_true rfl) ea_nil) ea_nil)) (.im (.im .nil)) ⟨_, _, _, (ls_T ls_int) law__e29 ([] : List Int), rfl, rfl, rfl⟩))))))))) rfl) (.n (.n (.n (.n (.n (.n (.n .nil)))))))))))))))))) rfl) (fun _ => ⟨rfl, isRt⟩))))
    exact ⟨_, EvC.ss main_, law__oo (law_ script) script⟩
end
end K14

namespace K14
open PySem PySem.Spec PyProof.Rows L2 VL
/-! ### what all laws share: draws -/
theorem take_ok (d : List Int) {m : Int} (hm : 0 < m) : law_take_ok d m := fun h => ⟨by
  intro e
  subst e
  simp at h, hm⟩
theorem take_ge (d : List Int) {m : Int} (hm : 0 < m) : 0 ≤ (law_take d m).1 := by
  unfold law_take
  split
  · exact Int.le_refl 0
  · exact Int.emod_nonneg _ (by omega)
theorem take_lt (d : List Int) {m : Int} (hm : 0 < m) : (law_take d m).1 < m := by
  unfold law_take
  split
  · exact hm
  · exact Int.emod_lt_of_pos _ hm
theorem sign_mul {x : Int} (d : List Int) : MulOk x (1 - 2 * (law_take d 2).1) := .inl (.inr (by
  have a := take_ge d (show (0 : Int) < 2 by decide)
  have b := take_lt d (show (0 : Int) < 2 by decide)
  omega))
theorem draws_ok (script : List Int) {many : Int} (hm : 0 ≤ many) (hm2 : many ≤ 10000) (hs : script.length ≤ 63) : law_draws_ok script many := by
  refine ⟨fun _ => by rw [List.length_map]; unfold sizeLine; omega, ?_⟩
  have hc : 0 < ((law_draws_e3 script).length : Int) := by
    unfold law_draws_e3
    split
    · rw [List.length_append]; simp
    · rename_i h
      rw [List.length_map] at h ⊢
      simp at h
      have : script.length ≠ 0 := fun z => h (List.length_eq_zero_iff.mp z)
      omega
  generalize law_draws_e3 script = cells at hc
  refine foldOk_by 10000 (fun i s => s.1.length = cells.length ∧ s.2.length = i) (fun i s x hi hI => ?_) _ 0 _ ⟨rfl, rfl⟩ (by rw [irange_len]; omega)
  obtain ⟨h1, h2⟩ := hI
  have a := ixOk_mod (l := cells) hc x
  have b : IxOk s.1 (x % (cells.length : Int)) := by
    unfold IxOk at a ⊢
    omega
  have z : s.2.length < sizeLine := by unfold sizeLine; omega
  refine ⟨⟨hc, ⟨a, fun _ => b⟩, fun _ => ⟨⟨b, z⟩, b, b⟩, fun _ => ⟨a, ?_, z⟩⟩, ?_⟩
  · exact mulOk_small (Int.emod_nonneg _ (by decide)) (Int.emod_lt_of_pos _ (by decide))
  · unfold law_draws_f5 law_draws_e7
    split
    · exact ⟨by rw [setI_len, h1], by simp [h2]⟩
    · exact ⟨h1, by simp [h2]⟩
theorem size_ok (d script : List Int) : law_size_ok d script := by
  refine ⟨take_ok _ (by decide), take_ok _ (by decide), fun _ => take_ok _ (by decide), fun h => ?_, fun _ => take_ok _ (by decide)⟩
  have h2 : (0 : Int) < (script.length : Int) := by
    simp at h
    omega
  refine ⟨take_ok _ h2, ?_⟩
  have a := take_ge (law_size_e5 d).1 h2
  have b := take_lt (law_size_e5 d).1 h2
  unfold IxOk law_size_e6
  omega
/-! ### water -/
section
variable {row : List Int}
theorem water_ok (h : 0 < (row.length : Int)) (x : Int) : law_water_ok row x := ⟨h, ixOk_mod h x⟩
theorem W_add (x : Int) : law_water row (x + row.length) = law_water row x := by unfold law_water; rw [Int.add_emod_right]
theorem W_sub (x : Int) : law_water row (x - row.length) = law_water row x := by
  have := W_add (row := row) (x - row.length)
  rw [← this]; congr 1; omega
theorem W_mod (x : Int) : law_water row (x % row.length) = law_water row x := by unfold law_water; rw [Int.emod_emod]
theorem W_mem (h : 0 < (row.length : Int)) (x : Int) : law_water row x ∈ row := ix_mem (ixOk_mod h x) 0
theorem W_at (x : Int) (h0 : 0 ≤ x) (h1 : x < row.length) : law_water row x = row.getD x.toNat 0 := by
  unfold law_water
  rw [Int.emod_eq_of_lt h0 h1, ix_nat _ _ _ h0]
theorem mem_W {y : Int} (h : y ∈ row) : ∃ x, 0 ≤ x ∧ x < row.length ∧ law_water row x = y := by
  obtain ⟨i, hi, e⟩ := List.mem_iff_getElem.mp h
  refine ⟨i, by omega, by omega, ?_⟩
  rw [W_at _ (by omega) (by omega), Int.toNat_natCast, List.getD_eq_getElem?_getD, List.getElem?_eq_getElem hi, e]; rfl
/-! ### the next hour -/
theorem next_eq (hour level : Int) : next_at_least row hour level = ((irange hour (hour + row.length)).filter fun x => decide (level ≤ law_water row x)).head? :=
  loop_find (fun x => decide (level ≤ law_water row x)) _
theorem next_ok (h : 0 < (row.length : Int)) (hour level : Int) : next_at_least_ok row hour level := loopOk_mem _ _ fun _ x _ => water_ok h x
theorem fit_eq (l : List Int) : ix (l.map (fun x => some x) ++ [(none : Option Int)]) 0 (none : Option Int) = l.head? := by
  rw [ix_nat _ _ _ (Int.le_refl 0)]
  cases l with
  | nil => rfl
  | cons x r => rfl
/-! ### the highest -/
theorem highest_eq (h : 0 < (row.length : Int)) {b e : Int} (hbe : b ≤ e) : ∃ o, srt (lt2 (fun a b : Int => decide (a < b)) (fun a b : Int => decide (a < b))) ((irange b (e + 1)).map fun x => (-(law_water row x), x)) ≠ [] ∧
    ix (srt (lt2 (fun a b : Int => decide (a < b)) (fun a b : Int => decide (a < b))) ((irange b (e + 1)).map fun x => (-(law_water row x), x))) 0 ((0 : Int), (0 : Int)) = (-(law_water row o), o) ∧ highest_in row b (e + 1) = (some o, law_water row o) := by
  have hne : ((irange b (e + 1)).map fun x => (-(law_water row x), x)) ≠ [] := fun z => irange_ne (show b < e + 1 by omega) (List.map_eq_nil_iff.mp z)
  obtain ⟨m, r, hs, hm, hle⟩ := srt_head (tot_2 tot_int tot_int) hne
  obtain ⟨o, ho, rfl⟩ := List.mem_map.mp hm
  have ho' := mem_irange.mp ho
  have key : ∀ x, b ≤ x → x < e + 1 → law_water row x ≤ law_water row o ∧ (law_water row x = law_water row o → o ≤ x) := fun x h1 h2 => by
    have q := hle _ (List.mem_map.mpr ⟨x, mem_irange.mpr ⟨h1, h2⟩, rfl⟩)
    unfold lt2 at q
    by_cases e1 : law_water row x = law_water row o
    · rw [if_pos (by rw [e1])] at q
      simp at q
      exact ⟨Int.le_of_eq e1, fun _ => q⟩
    · rw [if_neg (fun z => e1 (Int.neg_inj.mp z))] at q
      simp at q
      exact ⟨by omega, fun z => absurd z e1⟩
  have near : o < b + row.length := by
    refine Int.not_le.mp fun q => ?_
    have := (key (o - row.length) (by omega) (by omega)).2 (W_sub o)
    omega
  refine ⟨o, by rw [hs]; exact List.cons_ne_nil _ _, by rw [hs, ix_nat _ _ _ (Int.le_refl 0)]; rfl, ?_⟩
  have e3 : highest_in_e3 row b (e + 1) = law_water row o := by
    have hmax := maxI_spec (xs := (irange b (min (e + 1) (b + row.length))).map fun x1 => highest_in_e2 row x1) (fun z => irange_ne (show b < min (e + 1) (b + row.length) by omega) (List.map_eq_nil_iff.mp z)) 0
    obtain ⟨x, hx, ex⟩ := List.mem_map.mp hmax.1
    have hx' := mem_irange.mp hx
    have l1 := (key x hx'.1 (by omega)).1
    have l2 := hmax.2 _ (List.mem_map.mpr ⟨o, mem_irange.mpr ⟨ho'.1, by omega⟩, rfl⟩)
    have ex' : law_water row x = highest_in_e3 row b (e + 1) := ex
    have l2' : law_water row o ≤ highest_in_e3 row b (e + 1) := l2
    omega
  unfold highest_in highest_in_e4
  rw [e3, next_eq]
  rw [head_filter (o := o) ho'.1 near (by simp) fun x h1 h2 => by
    have := key x h1 (by omega)
    simp
    refine Int.not_le.mp fun q => ?_
    have := this.2 (by omega)
    omega]
theorem highest_ok (h : 0 < (row.length : Int)) {b e : Int} (hbe : b ≤ e) (hr : row.length ≤ 1000) : highest_in_ok row b (e + 1) :=
  ⟨⟨⟨by omega, fun x _ => water_ok h x⟩, fun z => irange_ne (show b < min (e + 1) (b + row.length) by omega) (List.map_eq_nil_iff.mp z)⟩, next_ok h _ _⟩
/-! ### windows -/
/-- how many from first on -/
def cnt (row : List Int) (level first : Int) : Int := whileS (law_longest_w4_c row level first) (law_longest_w4 row level first) (row.length + 2) 0
theorem cnt_spec (level first : Int) : 0 ≤ cnt row level first ∧ cnt row level first ≤ row.length + 1 ∧ (∀ j, 0 ≤ j → j < cnt row level first → level ≤ law_water row (first + j)) ∧ (cnt row level first ≤ row.length → law_water row (first + cnt row level first) < level) := by
  have q := whileS_by (c := law_longest_w4_c row level first) (f := law_longest_w4 row level first) (fun s : Int => 0 ≤ s ∧ s ≤ row.length + 1 ∧ ∀ j, 0 ≤ j → j < s → level ≤ law_water row (first + j)) (fun s => (row.length + 1 - s).toNat) (fun s hI hc => by
    unfold law_longest_w4_c at hc
    simp at hc
    obtain ⟨h1, h2, h3⟩ := hI
    have h4 : level ≤ law_water row (first + s) := hc.2
    show (0 ≤ s + 1 ∧ s + 1 ≤ row.length + 1 ∧ ∀ j, 0 ≤ j → j < s + 1 → level ≤ law_water row (first + j)) ∧ (row.length + 1 - (s + 1)).toNat < (row.length + 1 - s).toNat
    refine ⟨⟨by omega, by omega, fun j j0 j1 => ?_⟩, by omega⟩
    by_cases e : j = s
    · rw [e]; exact h4
    · exact h3 j j0 (by omega)) (row.length + 2) 0 ⟨Int.le_refl 0, by omega, fun j a b => by omega⟩ (by omega)
  obtain ⟨⟨h1, h2, h3⟩, h4⟩ := q
  refine ⟨h1, h2, h3, fun h5 => ?_⟩
  unfold law_longest_w4_c at h4
  simp at h4
  have := h4 h5
  exact this
theorem cnt_ok (h : 0 < (row.length : Int)) (level first : Int) (s : Int) : law_longest_f2_ok row level s first :=
  whileSOk_by (fun s : Int => 0 ≤ s ∧ s ≤ row.length + 1) (fun s => (row.length + 1 - s).toNat) (fun s hI => ⟨fun _ => water_ok h _, fun hc => by
    unfold law_longest_w4_c at hc
    simp at hc
    obtain ⟨h1, h2⟩ := hI
    exact ⟨trivial, ⟨by show 0 ≤ s + 1; omega, by show s + 1 ≤ _; omega⟩, by show (row.length + 1 - (s + 1)).toNat < (row.length + 1 - s).toNat; omega⟩⟩) _ 0 ⟨Int.le_refl 0, by omega⟩ (by omega)
def good (row : List Int) (level s k : Int) : Prop := ∀ x, s ≤ x → x < s + k → level ≤ law_water row x
/-- the longest good stretch of the first h hours -/
structure Best (row : List Int) (level h : Int) (b w : Int) : Prop where
  w0 : 0 ≤ w
  w1 : w ≤ h
  wg : good row level (h - w) w
  wm : w < h → law_water row (h - w - 1) < level
  b0 : 0 ≤ b
  be : b = 0 ∨ ∃ s, 0 ≤ s ∧ s + b ≤ h ∧ good row level s b
  bm : ∀ s k, 0 ≤ s → 0 ≤ k → s + k ≤ h → good row level s k → k ≤ b
theorem best_at (level : Int) {m : Int} (hm : 0 ≤ m) : Best row level m ((irange 0 m).foldl (longest_window_f2 row level) (0, 0)).1 ((irange 0 m).foldl (longest_window_f2 row level) (0, 0)).2 := by
  refine fold_irange (longest_window_f2 row level) (fun h s => Best row level h s.1 s.2) hm (0, 0) ⟨Int.le_refl 0, Int.le_refl 0, fun x a b => by omega, fun z => by omega, Int.le_refl 0, .inl rfl, fun s k a b c _ => by show k ≤ 0; omega⟩ fun x s h0 h1 hI => ?_
  obtain ⟨b, w⟩ := s
  have hI : Best row level x b w := hI
  unfold longest_window_f2 longest_window_e3
  show Best row level (x + 1) (max b (if decide (level ≤ law_water row x) = true then w + 1 else 0)) (if decide (level ≤ law_water row x) = true then w + 1 else 0)
  by_cases hg : level ≤ law_water row x
  · rw [if_pos (decide_eq_true hg)]
    refine ⟨by have := hI.w0; omega, by have := hI.w1; omega, fun y a c => ?_, fun z => ?_, by have := hI.b0; omega, ?_, fun s k a c e g => ?_⟩
    · by_cases ey : y = x
      · rw [ey]; exact hg
      · exact hI.wg y (by omega) (by omega)
    · have e : x + 1 - (w + 1) - 1 = x - w - 1 := by omega
      rw [e]
      exact hI.wm (by omega)
    · by_cases hb : b ≤ w + 1
      · right
        refine ⟨x - w, by have := hI.w1; omega, by omega, fun y a c => ?_⟩
        by_cases ey : y = x
        · rw [ey]; exact hg
        · exact hI.wg y (by omega) (by omega)
      · have e : max b (w + 1) = b := by omega
        rw [e]
        rcases hI.be with h | ⟨s, p1, p2, p3⟩
        · exact .inl h
        · exact .inr ⟨s, p1, by omega, p3⟩
    · by_cases ek : s + k ≤ x
      · have := hI.bm s k a c ek g
        omega
      · have : k ≤ w + 1 := by
          refine Int.not_lt.mp fun q => ?_
          have hw0 := hI.w0
          have hw := hI.wm (by omega)
          have := g (x - w - 1) (by omega) (by omega)
          omega
        omega
  · rw [if_neg (by simpa using hg)]
    refine ⟨Int.le_refl 0, by omega, fun y a c => by omega, fun z => ?_, by have := hI.b0; omega, ?_, fun s k a c e g => ?_⟩
    · have e : x + 1 - 0 - 1 = x := by omega
      rw [e]; omega
    · have e : max b 0 = b := by have := hI.b0; omega
      rw [e]
      rcases hI.be with h | ⟨s, p1, p2, p3⟩
      · exact .inl h
      · exact .inr ⟨s, p1, by omega, p3⟩
    · by_cases ek : s + k ≤ x
      · have := hI.bm s k a c ek g
        omega
      · by_cases k0 : k = 0
        · have := hI.b0; omega
        · exfalso
          exact hg (g x (by omega) (by omega))
/-- the law's own: the greatest count -/
theorem longest_loop (level : Int) (hsmall : ∀ x, cnt row level x ≤ row.length) : ∀ (l : List Int) (s : Int), 0 ≤ s → ∃ c, loopL (law_longest_f2 row level) s l = .inl c ∧ s ≤ c ∧ (∀ x ∈ l, cnt row level x ≤ c) ∧ (c = s ∨ ∃ x ∈ l, c = cnt row level x)
  | [], s, h => ⟨s, rfl, Int.le_refl s, fun x hx => by simp at hx, .inl rfl⟩
  | x :: xs, s, h => by
    have e : law_longest_f2 row level s x = .nx (max s (cnt row level x)) := by
      unfold law_longest_f2
      rw [if_neg]
      · rfl
      · have := hsmall x
        show ¬ decide ((row.length : Int) < cnt row level x) = true
        simpa using this
    have h0 := (cnt_spec (row := row) level x).1
    obtain ⟨c, e2, p1, p2, p3⟩ := longest_loop level hsmall xs (max s (cnt row level x)) (by omega)
    refine ⟨c, ?_, by omega, fun y hy => ?_, ?_⟩
    · unfold loopL
      rw [e]; exact e2
    · rcases List.mem_cons.mp hy with rfl | hy
      · omega
      · exact p2 y hy
    · rcases p3 with p3 | ⟨y, hy, p3⟩
      · by_cases q : cnt row level x ≤ s
        · left; omega
        · right; exact ⟨x, List.mem_cons_self, by omega⟩
      · right; exact ⟨y, List.mem_cons_of_mem _ hy, p3⟩
theorem window_eq (h : 0 < (row.length : Int)) (level : Int) : longest_window row level = law_longest row level := by
  have hne : row ≠ [] := fun z => by rw [z] at h; simp at h
  have mn := minI_spec hne 0
  by_cases hl : level ≤ minT (fun a b : Int => decide (a < b)) row 0
  · have e1 : longest_window row level = none := by
      unfold longest_window
      rw [if_pos (decide_eq_true hl)]
    have c0 : (row.length : Int) < cnt row level 0 := by
      refine Int.not_le.mp fun q => ?_
      have := (cnt_spec (row := row) level 0).2.2.2 q
      have := mn.2 _ (W_mem h (0 + cnt row level 0))
      omega
    rw [e1]
    unfold law_longest
    rw [irange_cons h]
    unfold loopL
    have e2 : law_longest_f2 row level 0 0 = .rt none := by
      unfold law_longest_f2
      rw [if_pos]
      show decide ((row.length : Int) < cnt row level 0) = true
      simpa using c0
    rw [e2]; rfl
  · obtain ⟨i0, q0, q1, q2⟩ := mem_W mn.1
    have low : law_water row i0 < level := by omega
    -- each window of the row's length meets a low hour
    have meets : ∀ s : Int, ∃ x : Int, s ≤ x ∧ x < s + row.length ∧ law_water row x < level := fun s => by
      refine ⟨s + (i0 - s) % row.length, ?_, ?_, ?_⟩
      · have := Int.emod_nonneg (i0 - s) (show (row.length : Int) ≠ 0 by omega)
        omega
      · have := Int.emod_lt_of_pos (i0 - s) h
        omega
      · have e : law_water row (s + (i0 - s) % row.length) = law_water row i0 := by
          rw [← W_mod, ← W_mod i0]
          congr 1
          rw [Int.add_emod, Int.emod_emod, ← Int.add_emod]
          congr 1
          omega
        rw [e]; exact low
    have short : ∀ s k : Int, good row level s k → k < row.length := fun s k g => by
      obtain ⟨x, a, b, c⟩ := meets s
      refine Int.not_le.mp fun q => ?_
      have := g x a (by omega)
      omega
    have cs : ∀ x : Int, cnt row level x ≤ row.length := fun x => by
      have := short x (cnt row level x) fun y a b => by
        have := (cnt_spec (row := row) level x).2.2.1 (y - x) (by omega) (by omega)
        have e : x + (y - x) = y := by omega
        rwa [e] at this
      omega
    obtain ⟨c, e, p1, p2, p3⟩ := longest_loop level cs (irange 0 row.length) 0 (Int.le_refl 0)
    have B := best_at (row := row) level (show 0 ≤ 2 * (row.length : Int) by omega)
    have e1 : longest_window row level = some ((irange 0 (2 * (row.length : Int))).foldl (longest_window_f2 row level) (0, 0)).1 := by
      unfold longest_window
      rw [if_neg (by simpa using hl)]
    have e2 : law_longest row level = some c := by
      unfold law_longest
      rw [e]; rfl
    rw [e1, e2]
    congr 1
    generalize ((irange 0 (2 * (row.length : Int))).foldl (longest_window_f2 row level) (0, 0)).1 = b at B
    have l1 : c ≤ b := by
      rcases p3 with p3 | ⟨x, hx, p3⟩
      · have := B.b0; omega
      · have hx' := mem_irange.mp hx
        have g : good row level x c := fun y a d => by
          have := (cnt_spec (row := row) level x).2.2.1 (y - x) (by omega) (by omega)
          have e : x + (y - x) = y := by omega
          rwa [e] at this
        have := short x c g
        exact B.bm x c hx'.1 p1 (by omega) g
    have l2 : b ≤ c := by
      rcases B.be with hb | ⟨s, s0, s1, g⟩
      · omega
      · have hk := short s b g
        by_cases b0 : b = 0
        · omega
        · have step : ∀ t : Int, 0 ≤ t → t < row.length → good row level t b → b ≤ c := fun t t0 t1 gt => by
            have ht := p2 t (mem_irange.mpr ⟨t0, t1⟩)
            refine Int.le_trans ?_ ht
            refine Int.not_lt.mp fun q => ?_
            have := (cnt_spec (row := row) level t).2.2.2 (cs t)
            have := gt (t + cnt row level t) (by have := (cnt_spec (row := row) level t).1; omega) (by omega)
            omega
          by_cases hs : s < row.length
          · exact step s s0 hs g
          · refine step (s - row.length) (by omega) (by have := B.b0; omega) fun y a d => ?_
            have := g (y + row.length) (by omega) (by omega)
            rwa [W_add] at this
    omega
theorem window_ok (h : 0 < (row.length : Int)) (level : Int) : longest_window_ok row level := ⟨fun z => by rw [z] at h; simp at h, fun _ => foldOk_mem _ _ fun _ x _ => water_ok h x⟩
theorem longest_ok (h : 0 < (row.length : Int)) (level : Int) : law_longest_ok row level := loopOk_mem _ _ fun s x _ => cnt_ok h level x s
end

/-! ### both rows -/
theorem divisor_ok (n d : Int) : divisor_of_ok n d := gcd_loopOk _ _ _ (Int.natCast_nonneg _) (Nat.lt_succ_self _)
theorem divisor_eq (n d : Int) : divisor_of n d = (Int.gcd n d : Int) := gcd_loop (((d.natAbs : Int)).natAbs + 1) n.natAbs d.natAbs (by simp)
theorem lcm_loop {row other : List Int} (h1 : 0 < (row.length : Int)) (h2 : 0 < (other.length : Int)) (b1 : row.length ≤ 1000) (b2 : other.length ≤ 1000) :
    whileSOk (law_rows_right_w10_c row other) (law_rows_right_w10 row other) (law_rows_right_w10_cok row other) (law_rows_right_w10_ok row other) (other.length + 1) (row.length : Int) ∧
    whileS (law_rows_right_w10_c row other) (law_rows_right_w10 row other) (other.length + 1) (row.length : Int) = ((row.length : Int) * (other.length : Int)) / (Int.gcd row.length other.length : Int) ∧
    ((row.length : Int) * (other.length : Int)) / (Int.gcd row.length other.length : Int) ≤ 1000000 ∧ 0 < (Int.gcd row.length other.length : Int) ∧ (Int.gcd row.length other.length : Int) ≤ 1000 := by
  have hg : 0 < (Int.gcd row.length other.length : Int) := by
    have := Int.gcd_pos_of_ne_zero_right (row.length : Int) (show (other.length : Int) ≠ 0 by omega)
    omega
  have hgl : (Int.gcd row.length other.length : Int) ≤ other.length := Int.gcd_le_right _ h2
  obtain ⟨a, ha⟩ := Int.gcd_dvd_left (row.length : Int) other.length
  obtain ⟨b, hb⟩ := Int.gcd_dvd_right (row.length : Int) other.length
  have hco := Int.gcd_ediv_gcd_ediv_gcd (i := (row.length : Int)) (j := (other.length : Int)) (by omega)
  have unc : ∀ s : Int, law_rows_right_w10_c row other s = (decide (s < (row.length : Int) * (other.length : Int)) && decide (0 < s % (other.length : Int))) := fun s => rfl
  have unf : ∀ s : Int, law_rows_right_w10 row other s = s + (row.length : Int) := fun s => rfl
  have mo : MulOk (row.length : Int) (other.length : Int) := mulOk_small (by omega) (by omega)
  have cok : ∀ s : Int, law_rows_right_w10_cok row other s := fun s => ⟨mo, fun _ => h2⟩
  have hprod : (row.length : Int) * (other.length : Int) ≤ 1000 * 1000 := Int.mul_le_mul (by omega) (by omega) (by omega) (by decide)
  generalize (row.length : Int) = lr at *
  have hlo : (other.length : Int) ≤ 1000 := by omega
  have hfuel : ∀ z : Int, z ≤ other.length → z.toNat < other.length + 1 := fun z hz => by omega
  generalize hlo' : (other.length : Int) = lo at *
  generalize (Int.gcd lr lo : Int) = g at *
  have e1 : lr / g = a := by rw [ha]; exact Int.mul_ediv_cancel_left a (by omega)
  have e2 : lo / g = b := by rw [hb]; exact Int.mul_ediv_cancel_left b (by omega)
  rw [e1, e2] at hco
  have ha0 : 0 < a := by
    rw [ha, Int.mul_comm] at h1
    exact Int.pos_of_mul_pos_left h1 hg
  have hb0 : 0 < b := by
    rw [hb, Int.mul_comm] at h2
    exact Int.pos_of_mul_pos_left h2 hg
  have bl : b ≤ lo := by
    rw [hb]
    have := Int.mul_le_mul_of_nonneg_right (show 1 ≤ g by omega) (show 0 ≤ b by omega)
    omega
  have eL : lr * lo / g = b * lr := by
    have : lr * lo = g * (b * lr) := by rw [hb]; grind
    rw [this]; exact Int.mul_ediv_cancel_left _ (by omega)
  have full : (b * lr) % lo = 0 := by
    have : b * lr = lo * a := by rw [ha, hb]; grind
    rw [this]; exact Int.mul_emod_right _ _
  have back : ∀ j : Int, 1 ≤ j → (j * lr) % lo = 0 → b ≤ j := fun j hj hm => by
    have hd := Int.dvd_of_emod_eq_zero hm
    obtain ⟨k, hk⟩ := hd
    have e3 : j * a = b * k := by
      have : g * (j * a) = g * (b * k) := by
        have h3 : j * lr = g * (j * a) := by rw [ha]; grind
        have h4 : lo * k = g * (b * k) := by rw [hb]; grind
        rw [← h3, ← h4]; exact hk
      exact Int.eq_of_mul_eq_mul_left (by omega) this
    have d1 : b ∣ a * j := ⟨k, by rw [← e3]; grind⟩
    have d2 := (Int.dvd_gcd_mul_iff_dvd_mul (k := b) (n := a) (m := j)).mpr d1
    rw [Int.gcd_comm, hco] at d2
    exact Int.le_of_dvd (by omega) (by simpa using d2)
  have quo : ∀ j : Int, j * lr / lr = j := fun j => Int.mul_ediv_cancel j (by omega)
  have step : ∀ s : Int, (∃ j, 1 ≤ j ∧ j ≤ b ∧ s = j * lr) → law_rows_right_w10_c row other s = true → (∃ j, 1 ≤ j ∧ j ≤ b ∧ s + lr = j * lr) ∧ (b - (s + lr) / lr).toNat < (b - s / lr).toNat := fun s ⟨j, j1, j2, e⟩ hc => by
    rw [unc] at hc
    simp at hc
    have nb : j ≠ b := fun z => by
      rw [e, z, full] at hc
      omega
    have e3 : s + lr = (j + 1) * lr := by rw [e]; grind
    refine ⟨⟨j + 1, by omega, by omega, e3⟩, ?_⟩
    rw [e3, e, quo, quo]; omega
  have start : ∃ j, 1 ≤ j ∧ j ≤ b ∧ lr = j * lr := ⟨1, by omega, by omega, by omega⟩
  have m0 : (b - lr / lr).toNat < other.length + 1 := by
    have : lr / lr = 1 := Int.ediv_self (by omega)
    rw [this]; omega
  refine ⟨whileSOk_by (fun s : Int => ∃ j, 1 ≤ j ∧ j ≤ b ∧ s = j * lr) (fun s => (b - s / lr).toNat) (fun s hI => ⟨cok s, fun hc => ⟨trivial, ?_⟩⟩) _ _ start m0, ?_, ?_, hg, by omega⟩
  · rw [unf]; exact step s hI hc
  · have q := whileS_by (c := law_rows_right_w10_c row other) (f := law_rows_right_w10 row other) (fun s : Int => ∃ j, 1 ≤ j ∧ j ≤ b ∧ s = j * lr) (fun s => (b - s / lr).toNat) (fun s hI hc => by rw [unf]; exact step s hI hc) (other.length + 1) lr start m0
    obtain ⟨⟨j, j1, j2, e⟩, hc⟩ := q
    rw [eL, e]
    rw [unc, e] at hc
    have : j = b := by
      by_cases hlt : j * lr < lr * lo
      · have hz : ¬ 0 < (j * lr) % lo := by
          intro z
          rw [decide_eq_true hlt, decide_eq_true z] at hc
          cases hc
        have := Int.emod_nonneg (j * lr) (show lo ≠ 0 by omega)
        have := back j j1 (by omega)
        omega
      · have : lo ≤ j := by
          refine Int.not_lt.mp fun z => hlt ?_
          rw [Int.mul_comm lr lo]
          exact Int.mul_lt_mul_of_pos_right z h1
        omega
    rw [this]
  · have : lr * lo / g ≤ lr * lo := Int.ediv_le_self _ (by
      have := Int.mul_pos h1 h2
      omega)
    omega
theorem both_eq {row other : List Int} (h1 : 0 < (row.length : Int)) (h2 : 0 < (other.length : Int)) (b1 : row.length ≤ 1000) (b2 : other.length ≤ 1000) : law_rows_right_e19 row other = law_rows_right_e18 row other := by
  unfold law_rows_right_e19 law_rows_right_e18 law_rows_right_e16 both_rows both_rows_e1
  rw [(lcm_loop h1 h2 b1 b2).2.1, divisor_eq]
  rfl
theorem both_ok {row other : List Int} (h1 : 0 < (row.length : Int)) (h2 : 0 < (other.length : Int)) (b1 : row.length ≤ 1000) (b2 : other.length ≤ 1000) : both_rows_ok row other := by
  obtain ⟨_, _, q3, q4, q5⟩ := lcm_loop h1 h2 b1 b2
  unfold both_rows_ok both_rows_e1
  rw [divisor_eq]
  exact ⟨⟨mulOk_small (by omega) (by omega), divisor_ok _ _, q4, Nat.lt_trans (log2_lt (k := 10) (by show _ < 1024; omega) (by decide)) (by decide)⟩, fun _ => ⟨by omega, fun x _ => ⟨water_ok h1 x, water_ok h2 x⟩⟩⟩
/-! ### drawn rows -/
theorem tide_ok (d script : List Int) {many : Int} (hm : 1 ≤ many) (hm2 : many ≤ 24) : law_tide_ok d script many ∧ (((law_tide d script many).1.1.length : Nat) : Int) = many := by
  have t3 := take_ge (law_tide_e2 d script).2 (show (0 : Int) < 2 by decide)
  have t3' := take_lt (law_tide_e2 d script).2 (show (0 : Int) < 2 by decide)
  have t5 := take_ge (law_tide_e3 d script).2 (show (0 : Int) < 3 by decide)
  have t5' := take_lt (law_tide_e3 d script).2 (show (0 : Int) < 3 by decide)
  have w := ix3 (a := 2) (b := 5) (c := 12) t5 t5' (fun z => 0 < z) (by decide) (by decide) (by decide)
  refine ⟨⟨⟨⟨size_ok _ _, take_ok _ (by decide), sign_mul _⟩, take_ok _ (by decide), (ix2 t3 t3' (fun _ => True) trivial trivial).1⟩, ⟨take_ok _ (by decide), w.1⟩, by omega, lcG_trueOk (fun _ _ => trivial) (fun s _ => take_ok s w.2) _ _⟩, ?_⟩
  show (((law_tide_e10 d script many).1.length : Nat) : Int) = many
  unfold law_tide_e10
  rw [lcG_true, irange_len]
  omega
/-! ### hours -/
theorem hours_turn (script row : List Int) (by_ : Int) (h : 0 < (row.length : Int)) (hr : row.length ≤ 1000) (s : List Int) (x : Int) : law_hours_right_f2_ok script row by_ s x ∧ ∃ s', law_hours_right_f2 script row by_ s x = .nx s' := by
  have t5 := take_ge (law_hours_right_e4 script s).2 (show (0 : Int) < 2 by decide)
  have t5' := take_lt (law_hours_right_e4 script s).2 (show (0 : Int) < 2 by decide)
  have t6 := take_ge (law_hours_right_e5 script s).2 (show (0 : Int) < 2 by decide)
  have t6' := take_lt (law_hours_right_e5 script s).2 (show (0 : Int) < 2 by decide)
  have t15 : 0 ≤ (law_hours_right_e15 script s).1 := take_ge (law_hours_right_e8 script s).2 (show (0 : Int) < 50 by decide)
  have t15' : (law_hours_right_e15 script s).1 < 50 := take_lt (law_hours_right_e8 script s).2 (show (0 : Int) < 50 by decide)
  obtain ⟨o, o1, o2, o3⟩ := highest_eq h (show law_hours_right_e7 script s ≤ law_hours_right_e7 script s + (law_hours_right_e15 script s).1 by omega)
  have wk := water_ok h
  have z1 : law_hours_right_e9 script row s = law_hours_right_e10 script row s := rfl
  have z2 : law_hours_right_e11 script row s = law_hours_right_e10 script row s := W_add _
  have z3 : law_hours_right_e14 script row by_ s = (ix ((((irange (law_hours_right_e7 script s) ((law_hours_right_e7 script s) + ((row).length : Int))).filter (fun x12 => (decide (((by_ + (law_hours_right_e8 script s).1) - (1 : Int)) ≤ (law_hours_right_e13 row x12))))).map (fun x12 => (some x12))) ++ ([(none : (Option Int))] : List (Option Int))) (0 : Int) (none : Option Int)) := by
    rw [fit_eq]; exact next_eq _ _
  have z4 : law_hours_right_e16 script row by_ s = (((irange (law_hours_right_e7 script s) ((law_hours_right_e7 script s) + (law_hours_right_e15 script s).1)).filter (fun x17 => (decide ((law_hours_right_e18 row x17) < ((by_ + (law_hours_right_e8 script s).1) - (1 : Int)))))).map (fun x17 => x17)) := rfl
  have z5 : law_hours_right_e22 script row s = ((some (law_hours_right_e21 script row s).2), (-(law_hours_right_e21 script row s).1)) := by
    have e : law_hours_right_e21 script row s = (-(law_water row o), o) := o2
    rw [e, Int.neg_neg]; exact o3
  have z6 : law_hours_right_e23 script row by_ s = law_hours_right_e24 script row by_ s := window_eq h _
  refine ⟨⟨⟨⟨take_ok _ (by decide), size_ok _ _, take_ok _ (by decide), sign_mul _⟩, take_ok _ (by decide), (ix2 t6 t6' (fun _ => True) trivial trivial).1⟩, take_ok _ (by decide), ⟨⟨wk _, wk _⟩, fun _ => ⟨wk _, wk _⟩⟩, fun _ => ⟨⟨by omega, fun x _ => wk x⟩, ⟨next_ok h _ _, ?_, ?_⟩,
    fun _ => ⟨take_ok _ (by decide), ⟨⟨⟨by omega, fun x _ => wk x⟩, by omega, fun x _ => wk x⟩, fun _ => ⟨⟨⟨by omega, fun x _ => wk x⟩, ?_⟩, highest_ok h (by omega) hr, fun _ => ⟨window_ok h _, longest_ok h _⟩⟩⟩⟩⟩⟩, (law_hours_right_e15 script s).2, ?_⟩
  · rw [List.length_map]
    have := List.length_filter_le (fun x12 => (decide (((by_ + (law_hours_right_e8 script s).1) - (1 : Int)) ≤ (law_hours_right_e13 row x12)))) (irange (law_hours_right_e7 script s) ((law_hours_right_e7 script s) + ((row).length : Int)))
    rw [irange_len] at this
    rw [sizeLine_eq]
    simp only [List.length_cons, List.length_nil]
    omega
  · unfold IxOk
    rw [List.length_append]
    simp only [List.length_cons, List.length_nil]
    omega
  · have : (srt (lt2 (fun a b : Int => decide (a < b)) (fun a b : Int => decide (a < b))) ((irange (law_hours_right_e7 script s) (((law_hours_right_e7 script s) + (law_hours_right_e15 script s).1) + (1 : Int))).map (fun x19 => ((-(law_hours_right_e20 row x19)), x19)))) ≠ [] := o1
    have := List.length_pos_iff.mpr this
    unfold IxOk
    omega
  · unfold law_hours_right_f2
    rw [z1, z2, ← z3, ← z4, ← z5, ← z6]
    simp
theorem hours_right (d script row : List Int) (by_ : Int) (h : 0 < (row.length : Int)) (hr : row.length ≤ 1000) : law_hours_right_ok d script row by_ ∧ (law_hours_right d script row by_).1 = true := by
  obtain ⟨h1, s', e⟩ := loop_all (law_hours_right_f2 script row by_) (law_hours_right_f2_ok script row by_) (irange 0 4) d fun s x _ => hours_turn script row by_ h hr s x
  refine ⟨h1, ?_⟩
  unfold law_hours_right
  rw [e]; rfl
theorem rows_right (d script row other : List Int) (h : 0 < (row.length : Int)) (hr : row.length ≤ 1000) (h' : 0 < (other.length : Int)) (hr' : other.length ≤ 1000) : law_rows_right_ok d script row other ∧ (law_rows_right d script row other).1 = true := by
  have t4 := take_ge (law_rows_right_e3 d script).2 (show (0 : Int) < 2 by decide)
  have t4' := take_lt (law_rows_right_e3 d script).2 (show (0 : Int) < 2 by decide)
  have L := lcm_loop h h' hr hr'
  have wk := water_ok h
  refine ⟨⟨⟨⟨take_ok _ (by decide), size_ok _ _, take_ok _ (by decide), sign_mul _⟩, take_ok _ (by decide), (ix2 t4 t4' (fun _ => True) trivial trivial).1⟩, ⟨⟨by omega, fun x _ => wk _⟩, by omega, fun x _ => wk _⟩, fun _ => ⟨L.1, ⟨by rw [L.2.1]; have := L.2.2.1; omega, fun x _ => ⟨wk x, water_ok h' x⟩⟩, both_ok h h' hr hr'⟩⟩, ?_⟩
  have z1 : law_rows_right_e6 d script row = ((irange 0 ((row).length : Int)).map (fun x7 => (law_rows_right_e8 d script row x7))) := rfl
  unfold law_rows_right
  rw [← z1, both_eq h h' hr hr']
  simp
/-! ### the law -/
theorem law_turn (script s : List Int) (x : Int) (hx : x ∈ ([4, 24, 9] : List Int)) : law__f3_ok script s x ∧ ∃ s', law__f3 script s x = .nx s' := by
  have hx' : 0 < x ∧ x ≤ 24 := by
    simp at hx
    omega
  have t4 := take_ge s hx'.1
  have t4' := take_lt s hx'.1
  have t6 := take_ge (law__e5 script s x).2 (show (0 : Int) < 24 by decide)
  have t6' := take_lt (law__e5 script s x).2 (show (0 : Int) < 24 by decide)
  have r1 := tide_ok (law__e4 s x).2 script (many := 1 + (law__e4 s x).1) (by show 1 ≤ 1 + (law_take s x).1; omega) (by show 1 + (law_take s x).1 ≤ 24; omega)
  have r2 := tide_ok (law__e6 script s x).2 script (many := 1 + (law__e6 script s x).1) (by show 1 ≤ 1 + (law_take (law__e5 script s x).2 24).1; omega) (by show 1 + (law_take (law__e5 script s x).2 24).1 ≤ 24; omega)
  have l1 : 0 < ((law__e5 script s x).1.1.length : Int) ∧ (law__e5 script s x).1.1.length ≤ 1000 := by
    have e : ((law__e5 script s x).1.1.length : Int) = 1 + (law__e4 s x).1 := r1.2
    have e2 : (law__e4 s x).1 = (law_take s x).1 := rfl
    omega
  have l2 : 0 < ((law__e7 script s x).1.1.length : Int) ∧ (law__e7 script s x).1.1.length ≤ 1000 := by
    have e : ((law__e7 script s x).1.1.length : Int) = 1 + (law__e6 script s x).1 := r2.2
    have e2 : (law__e6 script s x).1 = (law_take (law__e5 script s x).2 24).1 := rfl
    omega
  have H := hours_right (law__e7 script s x).2 script (law__e5 script s x).1.1 (law__e5 script s x).1.2 l1.1 l1.2
  have Rr := rows_right (law__e8 script s x).2 script (law__e5 script s x).1.1 (law__e7 script s x).1.1 l1.1 l1.2 l2.1 l2.2
  have e8 : (law__e8 script s x).1 = true := H.2
  have e9 : (law__e9 script s x).1 = true := Rr.2
  refine ⟨⟨⟨take_ok _ hx'.1, r1.1⟩, ⟨take_ok _ (by decide), r2.1⟩, H.1, fun _ => Rr.1⟩, (law__e9 script s x).2, ?_⟩
  unfold law__f3 law__e11
  rw [e8, e9]
  rfl
theorem pos_of {row : List Int} (h : decide (0 < row.length ∧ row.length ≤ 1000) = true) : 0 < (row.length : Int) ∧ row.length ≤ 1000 := by
  have := of_decide_eq_true h
  omega
theorem law_true (script : List Int) (hs : script.length ≤ 63) : law__ok script ∧ law_ script = true := by
  obtain ⟨h1, s', e⟩ := loop_all (law__f3 script) (law__f3_ok script) [4, 24, 9] (law__e1 script) (law_turn script)
  have a1 := pos_of (row := [3, 5, 4, 1]) (by decide)
  have a2 := pos_of (row := [4, 1, 4]) (by decide)
  have a3 := pos_of (row := [1, 2]) (by decide)
  have a4 := pos_of (row := [0, 0, 5]) (by decide)
  have a5 := pos_of (row := [3, 4]) (by decide)
  have a6 := pos_of (row := repT ([(1 : Int)] : List Int) (21 : Int)) (by decide +kernel)
  have a7 := pos_of (row := repT ([(1 : Int)] : List Int) (20 : Int)) (by decide +kernel)
  have a8 := pos_of (row := repT ([(2 : Int)] : List Int) (400 : Int)) (by decide +kernel)
  have w1 := fun x => water_ok a1.1 x
  refine ⟨⟨draws_ok _ (by decide) (by decide) hs, h1, fun _ _ => ⟨⟨w1 _, fun _ => next_ok a1.1 _ _, fun _ _ => next_ok a1.1 _ _, fun _ _ _ => ⟨by decide, fun x _ => w1 x⟩⟩, fun _ => ⟨⟨highest_ok a1.1 (b := 2) (e := 8) (by decide) a1.2, fun _ => window_ok a1.1 _, fun _ _ => window_ok a2.1 _, fun _ _ _ => window_ok a1.1 _⟩,
    fun _ => ⟨⟨⟨by decide, fun x _ => w1 _⟩, fun _ => both_ok a3.1 a4.1 a3.2 a4.2, fun _ _ => both_ok a3.1 a5.1 a3.2 a5.2⟩, fun _ => ⟨⟨by decide, by decide, both_ok a6.1 a7.1 a6.2 a7.2⟩, fun _ => window_ok a1.1 _, fun _ _ => ⟨⟨by decide, by decide, both_ok a7.1 a8.1 a7.2 a8.2⟩, by decide⟩, fun _ _ _ => ⟨by decide, fun x _ => w1 x⟩⟩⟩⟩⟩⟩, ?_⟩
  unfold law_
  rw [e]
  simp only [afterL]
  have z15 : law__e15 = 1 := by decide +kernel
  have z16 : law__e16 = some 5 := by decide +kernel
  have z17 : law__e17 = none := by decide +kernel
  have z18 : law__e18 = [-1, 0, 3] := by decide +kernel
  have z19 : law__e19 = (some 5, 5) := by decide +kernel
  have z20 : law__e20 = some 3 := by decide +kernel
  have z21 : law__e21 = some 2 := by decide +kernel
  have z22 : law__e22 = none := by decide +kernel
  have z23 : law__e23 = [1, 3, 5, 4] := by decide +kernel
  have z24 : law__e24 = some [1, 2, 6, 2, 1, 7] := by decide +kernel
  have z25 : law__e25 = some [4, 6] := by decide +kernel
  have z26 : law__e26 = none := by decide +kernel
  have z27 : law__e27 = some 0 := by decide +kernel
  have z28 : law__e28 = some (repT ([(3 : Int)] : List Int) (400 : Int)) := by decide +kernel
  have z29 : law__e29 = [] := by decide +kernel
  rw [z15, z16, z17, z18, z19, z20, z21, z22, z23, z24, z25, z26, z27, z28, z29]
  simp
end K14

namespace K14
open PySem PySem.Spec PyProof.Rows L2 VL
theorem b_law_draws : ∀ (kV doc pm : Value) (an : Option Addr) (cdv ct : Value) (us : List Value), us.length = 2 → bindArgs (PySem.W.fnOf "_law_draws" "_law_draws" (defArgs s_law_draws) (defBody s_law_draws) (defScope s_law_draws) .none kV doc pm an cdv ct) ⟨us, []⟩ = pure ((["script", "many"] : List Str).zip us) := fun _ _ _ _ _ _ us hl => match us, hl with | [_, _], _ => rfl
theorem b_law_take : ∀ (kV doc pm : Value) (an : Option Addr) (cdv ct : Value) (us : List Value), us.length = 2 → bindArgs (PySem.W.fnOf "_law_take" "_law_take" (defArgs s_law_take) (defBody s_law_take) (defScope s_law_take) .none kV doc pm an cdv ct) ⟨us, []⟩ = pure ((["draws", "many"] : List Str).zip us) := fun _ _ _ _ _ _ us hl => match us, hl with | [_, _], _ => rfl
theorem b_law_size : ∀ (kV doc pm : Value) (an : Option Addr) (cdv ct : Value) (us : List Value), us.length = 2 → bindArgs (PySem.W.fnOf "_law_size" "_law_size" (defArgs s_law_size) (defBody s_law_size) (defScope s_law_size) .none kV doc pm an cdv ct) ⟨us, []⟩ = pure ((["draws", "script"] : List Str).zip us) := fun _ _ _ _ _ _ us hl => match us, hl with | [_, _], _ => rfl
theorem b_law_tide : ∀ (kV doc pm : Value) (an : Option Addr) (cdv ct : Value) (us : List Value), us.length = 3 → bindArgs (PySem.W.fnOf "_law_tide" "_law_tide" (defArgs s_law_tide) (defBody s_law_tide) (defScope s_law_tide) .none kV doc pm an cdv ct) ⟨us, []⟩ = pure ((["draws", "script", "many"] : List Str).zip us) := fun _ _ _ _ _ _ us hl => match us, hl with | [_, _, _], _ => rfl
theorem b_water_at : ∀ (kV doc pm : Value) (an : Option Addr) (cdv ct : Value) (us : List Value), us.length = 2 → bindArgs (PySem.W.fnOf "water_at" "water_at" (defArgs s_water_at) (defBody s_water_at) (defScope s_water_at) .none kV doc pm an cdv ct) ⟨us, []⟩ = pure ((["row", "hour"] : List Str).zip us) := fun _ _ _ _ _ _ us hl => match us, hl with | [_, _], _ => rfl
theorem b_law_water : ∀ (kV doc pm : Value) (an : Option Addr) (cdv ct : Value) (us : List Value), us.length = 2 → bindArgs (PySem.W.fnOf "_law_water" "_law_water" (defArgs s_law_water) (defBody s_law_water) (defScope s_law_water) .none kV doc pm an cdv ct) ⟨us, []⟩ = pure ((["row", "hour"] : List Str).zip us) := fun _ _ _ _ _ _ us hl => match us, hl with | [_, _], _ => rfl
theorem b_law_same : ∀ (kV doc pm : Value) (an : Option Addr) (cdv ct : Value) (us : List Value), us.length = 2 → bindArgs (PySem.W.fnOf "_law_same" "_law_same" (defArgs s_law_same) (defBody s_law_same) (defScope s_law_same) .none kV doc pm an cdv ct) ⟨us, []⟩ = pure ((["actual", "due"] : List Str).zip us) := fun _ _ _ _ _ _ us hl => match us, hl with | [_, _], _ => rfl
theorem b_next_at_least : ∀ (kV doc pm : Value) (an : Option Addr) (cdv ct : Value) (us : List Value), us.length = 3 → bindArgs (PySem.W.fnOf "next_at_least" "next_at_least" (defArgs s_next_at_least) (defBody s_next_at_least) (defScope s_next_at_least) .none kV doc pm an cdv ct) ⟨us, []⟩ = pure ((["row", "hour", "level"] : List Str).zip us) := fun _ _ _ _ _ _ us hl => match us, hl with | [_, _, _], _ => rfl
theorem b_hours_shut : ∀ (kV doc pm : Value) (an : Option Addr) (cdv ct : Value) (us : List Value), us.length = 4 → bindArgs (PySem.W.fnOf "hours_shut" "hours_shut" (defArgs s_hours_shut) (defBody s_hours_shut) (defScope s_hours_shut) .none kV doc pm an cdv ct) ⟨us, []⟩ = pure ((["row", "level", "begin", "end"] : List Str).zip us) := fun _ _ _ _ _ _ us hl => match us, hl with | [_, _, _, _], _ => rfl
theorem b_highest_in : ∀ (kV doc pm : Value) (an : Option Addr) (cdv ct : Value) (us : List Value), us.length = 3 → bindArgs (PySem.W.fnOf "highest_in" "highest_in" (defArgs s_highest_in) (defBody s_highest_in) (defScope s_highest_in) .none kV doc pm an cdv ct) ⟨us, []⟩ = pure ((["row", "begin", "end"] : List Str).zip us) := fun _ _ _ _ _ _ us hl => match us, hl with | [_, _, _], _ => rfl
theorem b_longest_window : ∀ (kV doc pm : Value) (an : Option Addr) (cdv ct : Value) (us : List Value), us.length = 2 → bindArgs (PySem.W.fnOf "longest_window" "longest_window" (defArgs s_longest_window) (defBody s_longest_window) (defScope s_longest_window) .none kV doc pm an cdv ct) ⟨us, []⟩ = pure ((["row", "level"] : List Str).zip us) := fun _ _ _ _ _ _ us hl => match us, hl with | [_, _], _ => rfl
theorem b_law_longest : ∀ (kV doc pm : Value) (an : Option Addr) (cdv ct : Value) (us : List Value), us.length = 2 → bindArgs (PySem.W.fnOf "_law_longest" "_law_longest" (defArgs s_law_longest) (defBody s_law_longest) (defScope s_law_longest) .none kV doc pm an cdv ct) ⟨us, []⟩ = pure ((["row", "level"] : List Str).zip us) := fun _ _ _ _ _ _ us hl => match us, hl with | [_, _], _ => rfl
theorem b_law_hours_right : ∀ (kV doc pm : Value) (an : Option Addr) (cdv ct : Value) (us : List Value), us.length = 4 → bindArgs (PySem.W.fnOf "_law_hours_right" "_law_hours_right" (defArgs s_law_hours_right) (defBody s_law_hours_right) (defScope s_law_hours_right) .none kV doc pm an cdv ct) ⟨us, []⟩ = pure ((["draws", "script", "row", "by"] : List Str).zip us) := fun _ _ _ _ _ _ us hl => match us, hl with | [_, _, _, _], _ => rfl
theorem b_turned_row : ∀ (kV doc pm : Value) (an : Option Addr) (cdv ct : Value) (us : List Value), us.length = 2 → bindArgs (PySem.W.fnOf "turned_row" "turned_row" (defArgs s_turned_row) (defBody s_turned_row) (defScope s_turned_row) .none kV doc pm an cdv ct) ⟨us, []⟩ = pure ((["row", "by"] : List Str).zip us) := fun _ _ _ _ _ _ us hl => match us, hl with | [_, _], _ => rfl
theorem b_divisor_of : ∀ (kV doc pm : Value) (an : Option Addr) (cdv ct : Value) (us : List Value), us.length = 2 → bindArgs (PySem.W.fnOf "divisor_of" "divisor_of" (defArgs s_divisor_of) (defBody s_divisor_of) (defScope s_divisor_of) .none kV doc pm an cdv ct) ⟨us, []⟩ = pure ((["one", "other"] : List Str).zip us) := fun _ _ _ _ _ _ us hl => match us, hl with | [_, _], _ => rfl
theorem b_both_rows : ∀ (kV doc pm : Value) (an : Option Addr) (cdv ct : Value) (us : List Value), us.length = 2 → bindArgs (PySem.W.fnOf "both_rows" "both_rows" (defArgs s_both_rows) (defBody s_both_rows) (defScope s_both_rows) .none kV doc pm an cdv ct) ⟨us, []⟩ = pure ((["one", "other"] : List Str).zip us) := fun _ _ _ _ _ _ us hl => match us, hl with | [_, _], _ => rfl
theorem b_law_rows_right : ∀ (kV doc pm : Value) (an : Option Addr) (cdv ct : Value) (us : List Value), us.length = 4 → bindArgs (PySem.W.fnOf "_law_rows_right" "_law_rows_right" (defArgs s_law_rows_right) (defBody s_law_rows_right) (defScope s_law_rows_right) .none kV doc pm an cdv ct) ⟨us, []⟩ = pure ((["draws", "script", "row", "other"] : List Str).zip us) := fun _ _ _ _ _ _ us hl => match us, hl with | [_, _, _, _], _ => rfl
theorem all_mk {l : PySem.W.OpenLaw} {w : World} {K : PySem.W.Frag} {h : Heap} {mg : Str → Option Value} {fa f : Addr} {od an : Option Addr} {sl : Array (Option Value)} {oc kV dc pm cd ct : Value} (X : K.In h) (G : h.Ns mainGlobals mg) (hfa : mg "law" = some (.ref fa)) (D_law_draws : DefAt K mg "_law_draws" s_law_draws ["script", "many"]) (D_law_take : DefAt K mg "_law_take" s_law_take ["draws", "many"]) (D_law_size : DefAt K mg "_law_size" s_law_size ["draws", "script"]) (D_law_tide : DefAt K mg "_law_tide" s_law_tide ["draws", "script", "many"]) (D_water_at : DefAt K mg "water_at" s_water_at ["row", "hour"]) (D_law_water : DefAt K mg "_law_water" s_law_water ["row", "hour"]) (D_law_same : DefAt K mg "_law_same" s_law_same ["actual", "due"]) (D_next_at_least : DefAt K mg "next_at_least" s_next_at_least ["row", "hour", "level"]) (D_hours_shut : DefAt K mg "hours_shut" s_hours_shut ["row", "level", "begin", "end"]) (D_highest_in : DefAt K mg "highest_in" s_highest_in ["row", "begin", "end"]) (D_longest_window : DefAt K mg "longest_window" s_longest_window ["row", "level"]) (D_law_longest : DefAt K mg "_law_longest" s_law_longest ["row", "level"]) (D_law_hours_right : DefAt K mg "_law_hours_right" s_law_hours_right ["draws", "script", "row", "by"]) (D_turned_row : DefAt K mg "turned_row" s_turned_row ["row", "by"]) (D_divisor_of : DefAt K mg "divisor_of" s_divisor_of ["one", "other"]) (D_both_rows : DefAt K mg "both_rows" s_both_rows ["one", "other"]) (D_law_rows_right : DefAt K mg "_law_rows_right" s_law_rows_right ["draws", "script", "row", "other"]) (m_int : mg "int" = none) (m_len : mg "len" = none) (m_list : mg "list" = none) (m_range : mg "range" = none) (m_abs : mg "abs" = none) (m_tuple : mg "tuple" = none) (m_isinstance : mg "isinstance" = none) (m_bool : mg "bool" = none) (m_str : mg "str" = none) (m_max : mg "max" = none) (m_min : mg "min" = none) (m_sorted : mg "sorted" = none) (g_MOST : ∃ t, mg "MOST" = some (.int 400 t))
    (a : PySem.W.nsIn K mainGlobals "law" = some (some (.ref f))) (lk : K.lookup f = some ⟨oc, od, .func (PySem.W.fnOf "law" "law" (defArgs s_law_) (defBody s_law_) (defScope s_law_) .none kV dc pm an cd ct), sl⟩) (c : PySem.W.codeIn K cd "law" = true) (kp : PySem.W.keepIn K (.ref f) = true) :
    ∃ fd : FuncData, (∀ (s : Shared) (v : Value), BindsTo s fd ⟨[v], []⟩ [("script", v)]) ∧ ∀ base : Heap, K.In base → base.Ns mainGlobals mg → FnOk l.prog w K mg base CX0 5 fa fd ["script"] (SpOf K (RLaw 63)) := by
  have e := hfa.symm.trans (PySem.W.mg_of X G a)
  cases e
  have F := fun_mk (st := s_law_) lk c kp
  refine ⟨PySem.W.fnOf "law" "law" (defArgs s_law_) (defBody s_law_) (defScope s_law_) .none kV dc pm an cd ct, fun s v => .of_eq rfl, fun base _ _ => ?_⟩
  have C_law_draws := ok_law_draws (P := l.prog) (w := w) (base := base) D_law_draws m_int m_len m_list m_range 
  have C_law_take := ok_law_take (P := l.prog) (w := w) (base := base) D_law_take m_len m_int 
  have C_law_size := ok_law_size (P := l.prog) (w := w) (base := base) D_law_size m_len m_int m_abs C_law_take
  have C_law_tide := ok_law_tide (P := l.prog) (w := w) (base := base) D_law_tide m_tuple m_range C_law_size C_law_take
  have C_water_at := ok_water_at (P := l.prog) (w := w) (base := base) D_water_at m_len 
  have C_law_water := ok_law_water (P := l.prog) (w := w) (base := base) D_law_water m_int m_len 
  have C_law_same := ok_law_same (P := l.prog) (w := w) (base := base) D_law_same m_isinstance m_bool m_int m_str m_tuple m_len m_range
  have C_next_at_least := ok_next_at_least (P := l.prog) (w := w) (base := base) D_next_at_least m_range m_len C_water_at
  have C_hours_shut := ok_hours_shut (P := l.prog) (w := w) (base := base) D_hours_shut m_tuple m_range C_water_at
  have C_highest_in := ok_highest_in (P := l.prog) (w := w) (base := base) D_highest_in m_max m_range m_min m_len C_water_at C_next_at_least
  have C_longest_window := ok_longest_window (P := l.prog) (w := w) (base := base) D_longest_window m_min m_range m_len m_max C_water_at
  have C_law_longest := ok_law_longest (P := l.prog) (w := w) (base := base) D_law_longest m_range m_len m_max C_law_water
  have C_law_hours_right := ok_law_hours_right (P := l.prog) (w := w) (base := base) D_law_hours_right m_range m_len m_tuple m_sorted C_law_take C_law_size C_water_at C_law_water C_law_same C_next_at_least C_hours_shut C_highest_in C_longest_window C_law_longest
  have C_turned_row := ok_turned_row (P := l.prog) (w := w) (base := base) D_turned_row m_tuple m_range m_len C_water_at
  have C_divisor_of := ok_divisor_of (P := l.prog) (w := w) (base := base) D_divisor_of m_abs 
  have C_both_rows := ok_both_rows (P := l.prog) (w := w) (base := base) D_both_rows m_len m_tuple m_range g_MOST C_divisor_of C_water_at
  have C_law_rows_right := ok_law_rows_right (P := l.prog) (w := w) (base := base) D_law_rows_right m_tuple m_range m_len m_int C_law_take C_law_size C_turned_row C_law_water C_law_same C_both_rows
  refine (ok_law_ (P := l.prog) (w := w) (base := base) F  C_law_draws C_law_tide C_law_take C_law_hours_right C_law_rows_right C_water_at C_law_same C_next_at_least C_hours_shut C_highest_in C_longest_window C_turned_row C_both_rows).imp fun vs H Q E ⟨Z, args, r, outs, ⟨ns, hl, e1, e2, e3⟩, q⟩ => ⟨Z, args, r, outs, ⟨ns, (law_true ns hl).1, e1, by rw [e2, (law_true ns hl).2], by rw [e3, e1]; rfl⟩, q⟩
end K14
open PySem PySem.W PyProof.Rows
set_option maxHeartbeats 0 in
theorem PySem.Challenge.cw_boatsout_k14_water_by_hours_holds : PySem.Challenge.rw_boatsout_k14_water_by_hours.Holds := by
  w_on; o_law; k_head; (case hw => w_witness2)
  k_fill
  refine L2.walk_ofK (l := PySem.Challenge.rw_boatsout_k14_water_by_hours) (n := 63) (k := 5) (x := "script") (CX := L2.CX0) (sp := fun K => VL.SpOf K (VL.RLaw 63)) rfl (by decide) rfl ⟨rfl, by decide, by decide⟩ (fun w h Y => PySem.W.kIn_of Y) ?F (fun _ _ _ _ hl hO hS => VL.law_sp (by decide) hl hO hS) (fun _ _ _ _ h => h)
  case F =>
    intro w mg fa h KX G hmg
    refine' K14.all_mk KX G hmg (VL.defAt KX G ?a0 ?l0 ?c0 ?k0 K14.b_law_draws) (VL.defAt KX G ?a1 ?l1 ?c1 ?k1 K14.b_law_take) (VL.defAt KX G ?a2 ?l2 ?c2 ?k2 K14.b_law_size) (VL.defAt KX G ?a3 ?l3 ?c3 ?k3 K14.b_law_tide) (VL.defAt KX G ?a4 ?l4 ?c4 ?k4 K14.b_water_at) (VL.defAt KX G ?a5 ?l5 ?c5 ?k5 K14.b_law_water) (VL.defAt KX G ?a6 ?l6 ?c6 ?k6 K14.b_law_same) (VL.defAt KX G ?a7 ?l7 ?c7 ?k7 K14.b_next_at_least) (VL.defAt KX G ?a8 ?l8 ?c8 ?k8 K14.b_hours_shut) (VL.defAt KX G ?a9 ?l9 ?c9 ?k9 K14.b_highest_in) (VL.defAt KX G ?a10 ?l10 ?c10 ?k10 K14.b_longest_window) (VL.defAt KX G ?a11 ?l11 ?c11 ?k11 K14.b_law_longest) (VL.defAt KX G ?a12 ?l12 ?c12 ?k12 K14.b_law_hours_right) (VL.defAt KX G ?a13 ?l13 ?c13 ?k13 K14.b_turned_row) (VL.defAt KX G ?a14 ?l14 ?c14 ?k14 K14.b_divisor_of) (VL.defAt KX G ?a15 ?l15 ?c15 ?k15 K14.b_both_rows) (VL.defAt KX G ?a16 ?l16 ?c16 ?k16 K14.b_law_rows_right) (PySem.W.mg_none_of KX G ?z0) (PySem.W.mg_none_of KX G ?z1) (PySem.W.mg_none_of KX G ?z2) (PySem.W.mg_none_of KX G ?z3) (PySem.W.mg_none_of KX G ?z4) (PySem.W.mg_none_of KX G ?z5) (PySem.W.mg_none_of KX G ?z6) (PySem.W.mg_none_of KX G ?z7) (PySem.W.mg_none_of KX G ?z8) (PySem.W.mg_none_of KX G ?z9) (PySem.W.mg_none_of KX G ?z10) (PySem.W.mg_none_of KX G ?z11) (VL.mgInt KX G ?y0) ?a ?l ?c ?k
    (case a0 => k_is); (case l0 => k_is); (case c0 => k_is); (case k0 => k_is); (case a1 => k_is); (case l1 => k_is); (case c1 => k_is); (case k1 => k_is); (case a2 => k_is); (case l2 => k_is); (case c2 => k_is); (case k2 => k_is); (case a3 => k_is); (case l3 => k_is); (case c3 => k_is); (case k3 => k_is); (case a4 => k_is); (case l4 => k_is); (case c4 => k_is); (case k4 => k_is); (case a5 => k_is); (case l5 => k_is); (case c5 => k_is); (case k5 => k_is); (case a6 => k_is); (case l6 => k_is); (case c6 => k_is); (case k6 => k_is); (case a7 => k_is); (case l7 => k_is); (case c7 => k_is); (case k7 => k_is); (case a8 => k_is); (case l8 => k_is); (case c8 => k_is); (case k8 => k_is); (case a9 => k_is); (case l9 => k_is); (case c9 => k_is); (case k9 => k_is); (case a10 => k_is); (case l10 => k_is); (case c10 => k_is); (case k10 => k_is); (case a11 => k_is); (case l11 => k_is); (case c11 => k_is); (case k11 => k_is); (case a12 => k_is); (case l12 => k_is); (case c12 => k_is); (case k12 => k_is); (case a13 => k_is); (case l13 => k_is); (case c13 => k_is); (case k13 => k_is); (case a14 => k_is); (case l14 => k_is); (case c14 => k_is); (case k14 => k_is); (case a15 => k_is); (case l15 => k_is); (case c15 => k_is); (case k15 => k_is); (case a16 => k_is); (case l16 => k_is); (case c16 => k_is); (case k16 => k_is); (case z0 => k_is); (case z1 => k_is); (case z2 => k_is); (case z3 => k_is); (case z4 => k_is); (case z5 => k_is); (case z6 => k_is); (case z7 => k_is); (case z8 => k_is); (case z9 => k_is); (case z10 => k_is); (case z11 => k_is); (case y0 => exact ⟨_, _, by k_is, by decide⟩); (case a => k_is); (case l => k_is); (case c => k_is); (case k => k_is)
