import PyProof.Rows.All
import Wide.All
import OpenK.AllK
import Wide.FinOn
import HandS.ForMost
import HandS.Flow
import HandS.Style
import HandS.Zip
import HandS.Wide
import HandS.WideBits
import HandS.WideMore
import HandS.Conv
import HandS.TupAny
import HandS.SortInts
import HandS.Defaults
import HandS.Star
import HandS.Exc
import HandS.WordsExc
import HandS.IsInst
import KE.SortData
import PyProof.ReprRoads
import HandS.EndBits
import KE.DataIsa
import KE.GoesEnum
import HandS.Rev
import HandS.Ends
import HandS.HeadEnd
import PySem.Challenge.RW_samegaps_k66_whole_rulers_by_own_search
import HandS.Words
import HandS.Head0
import HandS.Head1
import HandS.Head2
import HandS.HeadHook1
import HandS.HeadHook2
import KE.KStateDown
import Lean
set_option Elab.async false
set_option linter.all false
set_option maxRecDepth 1000000
set_option maxHeartbeats 0
/-! The data layer: what defs compute, as plain functions of trees of data; each rule is proved once over the hand layer. -/
namespace Dn
open PySem PySem.Spec PyProof.Rows L2

abbrev D := PyData
/-- what a name holds: data; an own list, an own dict, an own set of ints; a range; the law's spring -/
inductive Sl where
  | un | dat (d : D) | ol (xs : List D) | od (kvs : List (D × D)) | os (ns : List Int) | rg (lo hi : Int) | spr
  deriving Inhabited
def keyD : Key → D
  | .inl i => .int i
  | .inr x => .str x

/-! ### data in the abstract heap -/
mutual
inductive Rp (K : PySem.W.Frag) (H : Hp) : V → D → Prop
  | non : Rp K H .non .none
  | bl (b : Bool) : Rp K H (.bl b) (.bool b)
  | int (i : Int) : Rp K H (.int i) (.int i)
  | str (x : Str) : Rp K H (.str x) (.str x)
  | lst {a : Addr} {xs : List V} {ds : List D} : SqL K H a xs → RpA K H xs ds → Rp K H (.ref a) (.list ds)
  | tup {a : Addr} {xs : List V} {ds : List D} : SqT K H a xs → RpA K H xs ds → Rp K H (.ref a) (.tuple ds)
  | dic {a : Addr} {ks : List (Key × V)} {ds : List (D × D)} : H a = some (.dK ks) → RpK K H ks ds → Rp K H (.ref a) (.dict ds)
inductive RpA (K : PySem.W.Frag) (H : Hp) : List V → List D → Prop
  | nil : RpA K H [] []
  | cons {v : V} {vs : List V} {d : D} {ds : List D} : Rp K H v d → RpA K H vs ds → RpA K H (v :: vs) (d :: ds)
inductive RpK (K : PySem.W.Frag) (H : Hp) : List (Key × V) → List (D × D) → Prop
  | nil : RpK K H [] []
  | cons {k : Key} {v : V} {ks : List (Key × V)} {d : D} {ds : List (D × D)} : Rp K H v d → RpK K H ks ds → RpK K H ((k, v) :: ks) ((keyD k, d) :: ds)
end
/-- all that the one tells, the other tells -/
def Le (H H' : Hp) : Prop := ∀ a o, H a = some o → H' a = some o
theorem Le.refl (H : Hp) : Le H H := fun _ _ h => h
theorem Le.trans {H H1 H2 : Hp} (a : Le H H1) (b : Le H1 H2) : Le H H2 := fun c o h => b c o (a c o h)
section
variable {K : PySem.W.Frag} {H H' : Hp}
theorem Le.sqL (e : Le H H') {a : Addr} {xs : List V} (h : SqL K H a xs) : SqL K H' a xs := by
  rcases h with (h | ⟨o, h⟩) | h
  · exact .inl (.inl (e _ _ h))
  · exact .inl (.inr ⟨o, e _ _ h⟩)
  · exact .inr h
theorem Le.sqT (e : Le H H') {a : Addr} {xs : List V} (h : SqT K H a xs) : SqT K H' a xs := by
  rcases h with (h | ⟨o, h⟩) | h
  · exact .inl (.inl (e _ _ h))
  · exact .inl (.inr ⟨o, e _ _ h⟩)
  · exact .inr h
mutual
theorem Rp.mono (e : Le H H') : ∀ {v : V} {d : D}, Rp K H v d → Rp K H' v d
  | _, _, .non => .non
  | _, _, .bl b => .bl b
  | _, _, .int i => .int i
  | _, _, .str x => .str x
  | _, _, .lst h r => .lst (e.sqL h) (r.mono e)
  | _, _, .tup h r => .tup (e.sqT h) (r.mono e)
  | _, _, .dic h r => .dic (e _ _ h) (r.mono e)
theorem RpA.mono (e : Le H H') : ∀ {vs : List V} {ds : List D}, RpA K H vs ds → RpA K H' vs ds
  | _, _, .nil => .nil
  | _, _, .cons r t => .cons (r.mono e) (t.mono e)
theorem RpK.mono (e : Le H H') : ∀ {ks : List (Key × V)} {ds : List (D × D)}, RpK K H ks ds → RpK K H' ks ds
  | _, _, .nil => .nil
  | _, _, .cons r t => .cons (r.mono e) (t.mono e)
end
theorem RpA.length : ∀ {vs : List V} {ds : List D}, RpA K H vs ds → vs.length = ds.length
  | _, _, .nil => rfl
  | _, _, .cons _ t => by rw [List.length_cons, List.length_cons, t.length]
theorem RpA.append : ∀ {vs ws : List V} {ds es : List D}, RpA K H vs ds → RpA K H ws es → RpA K H (vs ++ ws) (ds ++ es)
  | _, _, _, _, .nil, s => s
  | _, _, _, _, .cons r t, s => .cons r (t.append s)
theorem RpA.get : ∀ {vs : List V} {ds : List D} {i : Nat} {v : V}, RpA K H vs ds → vs[i]? = some v → ∃ d, ds[i]? = some d ∧ Rp K H v d
  | _, _, _, _, .nil, e => by simp at e
  | _, _, 0, _, .cons r _, e => by simp at e; subst e; exact ⟨_, rfl, r⟩
  | _, _, i + 1, v, .cons _ t, e => by
    obtain ⟨d, h1, h2⟩ := RpA.get (i := i) (v := v) t (by simpa using e)
    exact ⟨d, by simpa using h1, h2⟩
theorem RpA.get' : ∀ {vs : List V} {ds : List D} {i : Nat} {d : D}, RpA K H vs ds → ds[i]? = some d → ∃ v, vs[i]? = some v ∧ Rp K H v d
  | _, _, _, _, .nil, e => by simp at e
  | _, _, 0, _, .cons r _, e => by simp at e; subst e; exact ⟨_, rfl, r⟩
  | _, _, i + 1, d, .cons _ t, e => by
    obtain ⟨v, h1, h2⟩ := RpA.get' (i := i) (d := d) t (by simpa using e)
    exact ⟨v, by simpa using h1, h2⟩
theorem RpA.take : ∀ {vs : List V} {ds : List D} (n : Nat), RpA K H vs ds → RpA K H (vs.take n) (ds.take n)
  | _, _, 0, _ => .nil
  | _, _, _ + 1, .nil => .nil
  | _, _, n + 1, .cons r t => .cons r (t.take n)
theorem RpA.drop : ∀ {vs : List V} {ds : List D} (n : Nat), RpA K H vs ds → RpA K H (vs.drop n) (ds.drop n)
  | _, _, 0, r => r
  | _, _, _ + 1, .nil => .nil
  | _, _, n + 1, .cons _ t => RpA.drop n t
theorem RpA.set {x : V} {d : D} (r : Rp K H x d) : ∀ {vs : List V} {ds : List D} (i : Nat), RpA K H vs ds → RpA K H (vs.set i x) (ds.set i d)
  | _, _, _, .nil => .nil
  | _, _, 0, .cons _ t => .cons r t
  | _, _, i + 1, .cons q t => .cons q (RpA.set r i t)
theorem RpA.reverse {vs : List V} {ds : List D} (h : RpA K H vs ds) : RpA K H vs.reverse ds.reverse := by
  induction vs generalizing ds with
  | nil => cases h; exact .nil
  | cons v vs ih =>
    cases h with
    | cons r t =>
      rw [List.reverse_cons, List.reverse_cons]
      exact (ih t).append (.cons r .nil)
theorem RpA.replicate {v : V} {d : D} (r : Rp K H v d) : ∀ n : Nat, RpA K H (List.replicate n v) (List.replicate n d)
  | 0 => .nil
  | n + 1 => .cons r (RpA.replicate r n)
theorem RpA.rep {vs : List V} {ds : List D} (h : RpA K H vs ds) : ∀ n : Nat, RpA K H (List.replicate n vs).flatten (List.replicate n ds).flatten
  | 0 => .nil
  | n + 1 => by
    rw [List.replicate_succ, List.replicate_succ, List.flatten_cons, List.flatten_cons]
    exact h.append (RpA.rep h n)
theorem RpA.eraseIdx : ∀ {vs : List V} {ds : List D} (i : Nat), RpA K H vs ds → RpA K H (vs.eraseIdx i) (ds.eraseIdx i)
  | _, _, _, .nil => by simp; exact .nil
  | _, _, 0, .cons _ t => t
  | _, _, i + 1, .cons r t => .cons r (RpA.eraseIdx i t)
theorem RpA.ints : ∀ {vs : List V} {ns : List Int}, RpA K H vs (ns.map PyData.int) → vs = ns.map V.int
  | _, [], h => by cases h; rfl
  | _, n :: ns, h => by
    cases h with
    | cons r t => cases r; rw [List.map_cons, RpA.ints t]
theorem RpA.of_ints : ∀ ns : List Int, RpA K H (ns.map V.int) (ns.map PyData.int)
  | [] => .nil
  | n :: ns => .cons (.int n) (RpA.of_ints ns)
theorem RpA.bools : ∀ {vs : List V} {ns : List Bool}, RpA K H vs (ns.map PyData.bool) → vs = ns.map V.bl
  | _, [], h => by cases h; rfl
  | _, n :: ns, h => by
    cases h with
    | cons r t => cases r; rw [List.map_cons, RpA.bools t]
end

/-! ### outcomes -/
abbrev SpO := Option (Int × Int × Int)
/-- an exception: the class's name, its field -/
structure Ex where
  cls : Str
  fld : Option (Str × D)
inductive Out (α : Type) where
  | ok (a : α) (sp : SpO) | exc (e : Ex) (sp : SpO) | bad
def Out.bind {α β : Type} (o : Out α) (f : α → SpO → Out β) : Out β := match o with
  | .ok a sp => f a sp
  | .exc e sp => .exc e sp
  | .bad => .bad
@[simp] theorem Out.bind_ok {α β : Type} (a : α) (sp : SpO) (f : α → SpO → Out β) : (Out.ok a sp).bind f = f a sp := rfl
@[simp] theorem Out.bind_exc {α β : Type} (e : Ex) (sp : SpO) (f : α → SpO → Out β) : (Out.exc e sp : Out α).bind f = .exc e sp := rfl
@[simp] theorem Out.bind_bad {α β : Type} (f : α → SpO → Out β) : (Out.bad : Out α).bind f = .bad := rfl
abbrev Env_ := List Sl
/-- an expression; a test; an argument list -/
abbrev DE := Env_ → SpO → Out Sl
abbrev DT := Env_ → SpO → Out Bool
abbrev DA := Env_ → SpO → Out (List Sl)
/-- a def -/
abbrev Mir := List Sl → SpO → Out Sl

/-! ### how heaps grow -/
def SpAt (as : Option Addr) (sp : SpO) (H : Hp) : Prop := match as, sp with
  | some a, some (x, y, z) => H a = some (.lst [.int x, .int y, .int z])
  | none, none => True
  | _, _ => False
structure Gr (as : Option Addr) (F H F' H' : Hp) : Prop where
  keep : ∀ a o, as ≠ some a → H a = some o → H' a = some o
  tr : ∀ a, H' a = none → H a = none
  sub : Le F F'
  le : Le F' H'
  new : ∀ a o, F' a = some o → (∃ o', F a = some o') ∨ H a = none
section
variable {as : Option Addr} {F H F' H' F'' H'' : Hp}
theorem Gr.refl (l : Le F H) : Gr as F H F H := ⟨fun _ _ _ h => h, fun _ h => h, Le.refl _, l, fun a o h => .inl ⟨o, h⟩⟩
theorem Gr.trans (a : Gr as F H F' H') (b : Gr as F' H' F'' H'') : Gr as F H F'' H'' where
  keep := fun c o n h => b.keep c o n (a.keep c o n h)
  tr := fun c h => a.tr c (b.tr c h)
  sub := a.sub.trans b.sub
  le := b.le
  new := fun c o h => by
    rcases b.new c o h with ⟨o', h'⟩ | h'
    · exact a.new c o' h'
    · exact .inr (a.tr c h')
/-- nothing but new objects -/
theorem Le.back {H H' : Hp} (k : Le H H') {a : Addr} (h : H' a = none) : H a = none := by
  cases q : H a with
  | none => rfl
  | some o => rw [k a o q] at h; cases h
theorem Gr.of (l : Le F H) (k : Le H H') : Gr as F H F H' where
  keep := fun a o _ h => k a o h
  tr := fun a h => k.back h
  sub := Le.refl _
  le := l.trans k
  new := fun a o h => .inl ⟨o, h⟩
theorem le_upd {H : Hp} {p : Addr} {o : HO} (h : H p = none) : Le H (upd H p o) := fun a u e => by
  rw [upd_ne (ne_of_none e h)]
  exact e
theorem le_upd2 {F H : Hp} {p : Addr} {o : HO} (l : Le F H) : Le (upd F p o) (upd H p o) := fun a u e => by
  by_cases h : a = p
  · subst h; rw [upd_same] at e ⊢; exact e
  · rw [upd_ne h] at e ⊢; exact l a u e
theorem Le.none (l : Le F H) {p : Addr} (h : H p = none) : F p = none := by
  cases q : F p with
  | none => rfl
  | some o => rw [l p o q] at h; cases h
/-- a new known object -/
theorem Gr.laid (l : Le F H) {p : Addr} {o : HO} (h : H p = none) : Gr as F H (upd F p o) (upd H p o) where
  keep := fun a u _ e => le_upd h a u e
  tr := fun a e => by
    by_cases q : a = p
    · subst q; exact h
    · rw [upd_ne q] at e; exact e
  sub := le_upd (l.none h)
  le := le_upd2 l
  new := fun a u e => by
    by_cases q : a = p
    · subst q; exact .inr h
    · rw [upd_ne q] at e; exact .inl ⟨u, e⟩
/-- a new object that is not known yet -/
theorem Gr.laid1 (l : Le F H) {p : Addr} {o : HO} (h : H p = none) : Gr as F H F (upd H p o) := Gr.of l (le_upd h)
theorem SpAt.keep {sp : SpO} (s : SpAt as sp H) (k : Le H H') : SpAt as sp H' := by
  cases as with
  | none => cases sp <;> exact s
  | some a =>
    cases sp with
    | none => exact s
    | some p => exact k _ _ s
end

/-! ### values -/
def Sl.own : Sl → Bool
  | .ol _ => true
  | .od _ => true
  | .os _ => true
  | _ => false
/-- v is s, as far as it can be read -/
def VR (K : PySem.W.Frag) (as : Option Addr) (F H : Hp) : Sl → V → Prop
  | .dat d, v => Rp K F v d
  | .ol xs, v => ∃ a vs, v = .ref a ∧ as ≠ some a ∧ F a = none ∧ H a = some (.lst vs) ∧ RpA K F vs xs
  | .od kvs, v => ∃ a ks, v = .ref a ∧ as ≠ some a ∧ F a = none ∧ H a = some (.dK ks) ∧ RpK K F ks kvs
  | .os ns, v => ∃ a S n, v = .ref a ∧ as ≠ some a ∧ F a = none ∧ H a = some (.set S n) ∧ (∀ k, S k = true ↔ k ∈ ns) ∧ n = ns.length
  | .rg lo hi, v => ∃ a, v = .ref a ∧ as ≠ some a ∧ H a = some (.rng lo hi)
  | .spr, v => ∃ a, v = .ref a ∧ as = some a
  | .un, _ => False
/-- how it may be used: read alone; as a value; as an argument -/
inductive Md where
  | rd | vl | ag
def VM (m : Md) (K : PySem.W.Frag) (as : Option Addr) (H0 F H : Hp) (s : Sl) (v : V) : Prop :=
  VR K as F H s v ∧ (m ≠ .rd → s.own = true → ∀ a, v = .ref a → H0 a = none) ∧ (m = .vl → s ≠ .spr)
section
variable {K : PySem.W.Frag} {as : Option Addr} {F H F' H' H0 H1 : Hp} {s : Sl} {v : V} {m : Md}
theorem VR.gr (g : Gr as F H F' H') (h : VR K as F H s v) : VR K as F' H' s v := by
  have nf : ∀ a o, F a = none → H a = some o → F' a = none := fun a o e1 e2 => by
    cases q : F' a with
    | none => rfl
    | some u =>
      rcases g.new a u q with ⟨o', z⟩ | z
      · rw [e1] at z; cases z
      · rw [e2] at z; cases z
  cases s with
  | un => exact h
  | dat d => exact Rp.mono g.sub h
  | ol xs =>
    obtain ⟨a, vs, e, n, f, hh, r⟩ := h
    exact ⟨a, vs, e, n, nf a _ f hh, g.keep a _ n hh, r.mono g.sub⟩
  | od kvs =>
    obtain ⟨a, vs, e, n, f, hh, r⟩ := h
    exact ⟨a, vs, e, n, nf a _ f hh, g.keep a _ n hh, r.mono g.sub⟩
  | os ns =>
    obtain ⟨a, S, k, e, n, f, hh, r⟩ := h
    exact ⟨a, S, k, e, n, nf a _ f hh, g.keep a _ n hh, r⟩
  | rg lo hi =>
    obtain ⟨a, e, n, hh⟩ := h
    exact ⟨a, e, n, g.keep a _ n hh⟩
  | spr => exact h
theorem VM.vr (h : VM m K as H0 F H s v) : VR K as F H s v := h.1
theorem VM.rd (h : VR K as F H s v) : VM .rd K as H0 F H s v := ⟨h, fun n => absurd rfl n, fun n => nomatch n⟩
theorem VM.of_dat {d : D} (h : Rp K F v d) : VM m K as H0 F H (.dat d) v := ⟨h, fun _ o => (nomatch o), fun _ e => nomatch e⟩
theorem VM.tord (h : VM m K as H0 F H s v) : VM .rd K as H0 F H s v := VM.rd h.1
theorem VM.toag (h : VM .vl K as H0 F H s v) : VM .ag K as H0 F H s v := ⟨h.1, fun _ => h.2.1 (fun e => nomatch e), fun e => nomatch e⟩
theorem VM.any (h : VM .vl K as H0 F H s v) : VM m K as H0 F H s v := by
  cases m
  · exact h.tord
  · exact h
  · exact h.toag
/-- .. seen from an earlier heap -/
theorem VM.back (k : ∀ a, H1 a = none → H0 a = none) (h : VM m K as H1 F H s v) : VM m K as H0 F H s v := ⟨h.1, fun n o a e => k a (h.2.1 n o a e), h.2.2⟩
theorem VM.gr (g : Gr as F H F' H') (h : VM m K as H0 F H s v) : VM m K as H0 F' H' s v := ⟨h.1.gr g, h.2⟩
end

/-! ### states -/
/-- the frame's slots hold ρ; F0, H0: the entry; F: what is known as data -/
structure Rl (K : PySem.W.Frag) (as : Option Addr) (F0 H0 F H : Hp) (sp : SpO) (ρ : Env_) (σ : L2.St) : Prop where
  gr : Gr as F0 H0 F H
  sp : SpAt as sp H
  nas : ∀ a, as = some a → F a = none
  slot : ∀ (i : Nat) (s : Sl), ρ[i]? = some s → s ≠ .un → ∃ v : V, σ[i]? = some (some v) ∧ VR K as F H s v ∧ (s.own = true → ∀ a, v = .ref a → H0 a = none)
  dis : ∀ (i j : Nat) (s t : Sl) (a : Addr), ρ[i]? = some s → ρ[j]? = some t → s.own = true → t.own = true → σ[i]? = some (some (V.ref a)) → σ[j]? = some (some (V.ref a)) → i = j
/-- an exception lies so -/
def ExR (K : PySem.W.Frag) (as : Option Addr) (mg : Str → Option Value) (e : Ex) (c : Value) (d : Option Addr) (F H : Hp) : Prop :=
  ∃ C, mg e.cls = some (.ref C) ∧ c = .ref C ∧ (match e.fld with
    | none => d = none
    | some (f, x) => ∃ a v, d = some a ∧ H a = some (.xd [(f, v)]) ∧ Rp K F v x)
/-- what is wanted behind -/
def PV (m : Md) (K : PySem.W.Frag) (as : Option Addr) (mg : Str → Option Value) (E : XK) (F H : Hp) (Q : VK) : Out Sl → Prop
  | .ok s sp => ∀ v F' H', Gr as F H F' H' → SpAt as sp H' → VM m K as H F' H' s v → Q v H'
  | .exc e sp => ∀ c d F' H', Gr as F H F' H' → SpAt as sp H' → ExR K as mg e c d F' H' → E c d H'
  | .bad => False
def PVt (K : PySem.W.Frag) (as : Option Addr) (mg : Str → Option Value) (E : XK) (F H : Hp) (Q : Bool → Hp → Prop) : Out Bool → Prop
  | .ok b sp => ∀ F' H', Gr as F H F' H' → SpAt as sp H' → Q b H'
  | .exc e sp => ∀ c d F' H', Gr as F H F' H' → SpAt as sp H' → ExR K as mg e c d F' H' → E c d H'
  | .bad => False
/-- values side by side -/
def Side (m : Md) (K : PySem.W.Frag) (as : Option Addr) (H0 F H : Hp) (ss : List Sl) (vs : List V) : Prop :=
  Paired (VM m K as H0 F H) ss vs ∧ (m ≠ .rd → ∀ (i j : Nat) (s t : Sl) (a : Addr), ss[i]? = some s → ss[j]? = some t → s.own = true → t.own = true → vs[i]? = some (V.ref a) → vs[j]? = some (V.ref a) → i = j)
def PVa (m : Md) (K : PySem.W.Frag) (as : Option Addr) (mg : Str → Option Value) (E : XK) (F H : Hp) (Q : List V → Hp → Prop) : Out (List Sl) → Prop
  | .ok ss sp => ∀ vs F' H', Gr as F H F' H' → SpAt as sp H' → Side m K as H F' H' ss vs → Q vs H'
  | .exc e sp => ∀ c d F' H', Gr as F H F' H' → SpAt as sp H' → ExR K as mg e c d F' H' → E c d H'
  | .bad => False
def TD (m : Md) (K : PySem.W.Frag) (as : Option Addr) (mg : Str → Option Value) (E : XK) (t : DE) : TE := fun σ H Q =>
  ∃ F0 H0 F ρ sp, Rl K as F0 H0 F H sp ρ σ ∧ PV m K as mg E F H Q (t ρ sp)
def TDt (K : PySem.W.Frag) (as : Option Addr) (mg : Str → Option Value) (E : XK) (t : DT) : TT := fun σ H Q =>
  ∃ F0 H0 F ρ sp, Rl K as F0 H0 F H sp ρ σ ∧ PVt K as mg E F H Q (t ρ sp)
def TDa (m : Md) (K : PySem.W.Frag) (as : Option Addr) (mg : Str → Option Value) (E : XK) (t : DA) : TA := fun σ H Q =>
  ∃ F0 H0 F ρ sp, Rl K as F0 H0 F H sp ρ σ ∧ PVa m K as mg E F H Q (t ρ sp)

section
variable {K : PySem.W.Frag} {as : Option Addr} {F0 H0 F H F' H' : Hp} {sp sp' : SpO} {ρ : Env_} {σ : L2.St}
theorem Rl.le (r : Rl K as F0 H0 F H sp ρ σ) : Le F H := r.gr.le
theorem Rl.go (r : Rl K as F0 H0 F H sp ρ σ) (g : Gr as F H F' H') (s : SpAt as sp' H') : Rl K as F0 H0 F' H' sp' ρ σ where
  gr := r.gr.trans g
  sp := s
  nas := fun a e => by
    cases q : F' a with
    | none => rfl
    | some o =>
      rcases g.new a o q with ⟨o', z⟩ | z
      · rw [r.nas a e] at z; cases z
      · have s0 := r.sp
        subst e
        cases sp with
        | none => exact s0.elim
        | some p =>
          have s1 : H a = some (.lst [.int p.1, .int p.2.1, .int p.2.2]) := s0
          rw [s1] at z; cases z
  slot := fun i s e n => by
    obtain ⟨v, h1, h2, h3⟩ := r.slot i s e n
    exact ⟨v, h1, h2.gr g, h3⟩
  dis := r.dis
end

/-- the judgements -/
structure PD (m : Md) (X : Cx) (as : Option Addr) (E : XK) (e : Expr) (t : DE) : Prop where
  pe : PE X e (TD m X.K as X.mg E t)
structure PDt (X : Cx) (as : Option Addr) (E : XK) (e : Expr) (t : DT) : Prop where
  pt : PT X e (TDt X.K as X.mg E t)
structure PDa (m : Md) (X : Cx) (as : Option Addr) (E : XK) (es : List Expr) (t : DA) : Prop where
  pa : PA X es (TDa m X.K as X.mg E t)

section
variable {X : Cx} {as : Option Addr} {E : XK} {e a b c : Expr} {es : List Expr} {t ta tb tc : DE} {m m' : Md} {pos : Pos}
theorem PD.by {te : TE} (h : PE X e te) (imp : ∀ σ H Q F0 H0 F ρ sp, Rl X.K as F0 H0 F H sp ρ σ → PV m X.K as X.mg E F H Q (t ρ sp) → te σ H Q) : PD m X as E e t :=
  ⟨⟨fun pins s σ H Q I ⟨F0, H0, F, ρ, sp, r, p⟩ => h.run pins s σ H Q I (imp σ H Q F0 H0 F ρ sp r p)⟩⟩
theorem PDt.by {te : TT} (h : PT X e te) {t : DT} (imp : ∀ σ H Q F0 H0 F ρ sp, Rl X.K as F0 H0 F H sp ρ σ → PVt X.K as X.mg E F H Q (t ρ sp) → te σ H Q) : PDt X as E e t :=
  ⟨⟨fun pins s σ H Q I ⟨F0, H0, F, ρ, sp, r, p⟩ => h.run pins s σ H Q I (imp σ H Q F0 H0 F ρ sp r p)⟩⟩
theorem PDa.by {te : TA} (h : PA X es te) {t : DA} (imp : ∀ σ H Q F0 H0 F ρ sp, Rl X.K as F0 H0 F H sp ρ σ → PVa m X.K as X.mg E F H Q (t ρ sp) → te σ H Q) : PDa m X as E es t :=
  ⟨⟨fun po pins s σ H Q I ⟨F0, H0, F, ρ, sp, r, p⟩ => h.run po pins s σ H Q I (imp σ H Q F0 H0 F ρ sp r p)⟩⟩
theorem PV.any {K : PySem.W.Frag} {mg : Str → Option Value} {F H : Hp} {Q : VK} {o : Out Sl} (p : PV m K as mg E F H Q o) : PV .vl K as mg E F H Q o := by
  cases o with
  | ok s sp => exact fun v F' H' g q r => p v F' H' g q r.any
  | exc e sp => exact p
  | bad => exact p
/-- a value may be read, or be an argument -/
theorem PD.any (h : PD .vl X as E e t) : PD m X as E e t := PD.by h.pe fun σ H Q F0 H0 F ρ sp r p => ⟨F0, H0, F, ρ, sp, r, p.any⟩

/-- the first of two steps -/
theorem bindP {K : PySem.W.Frag} {mg : Str → Option Value} {F H : Hp} {Q : VK} {o : Out Sl} {f : Sl → SpO → Out Sl} (p : PV m K as mg E F H Q (o.bind f)) :
    PV m' K as mg E F H (fun v H1 => ∃ F' s sp, o = .ok s sp ∧ Gr as F H F' H1 ∧ SpAt as sp H1 ∧ VM m' K as H F' H1 s v ∧ PV m K as mg E F H Q (f s sp)) o := by
  cases o with
  | ok s sp => exact fun v F' H' g q r => ⟨F', s, sp, rfl, g, q, r, p⟩
  | exc e sp => exact p
  | bad => exact p
theorem PV.imp {K : PySem.W.Frag} {mg : Str → Option Value} {F H : Hp} {Q Q' : VK} {o : Out Sl} (p : PV m K as mg E F H Q o) (h : ∀ v H', Q v H' → Q' v H') : PV m K as mg E F H Q' o := by
  cases o with
  | ok s sp => exact fun v F' H' g q r => h _ _ (p v F' H' g q r)
  | exc e sp => exact p
  | bad => exact p
/-- what is wanted, seen from a grown heap -/
theorem PV.go {K : PySem.W.Frag} {mg : Str → Option Value} {F H F' H' : Hp} {Q : VK} {o : Out Sl} (g : Gr as F H F' H') (p : PV m K as mg E F H Q o) : PV m K as mg E F' H' Q o := by
  cases o with
  | ok s sp => exact fun v F2 H2 g2 q r => p v F2 H2 (g.trans g2) q (r.back g.tr)
  | exc e sp => exact fun c d F2 H2 g2 q r => p c d F2 H2 (g.trans g2) q r
  | bad => exact p
theorem PVt.go {K : PySem.W.Frag} {mg : Str → Option Value} {F H F' H' : Hp} {Q : Bool → Hp → Prop} {o : Out Bool} (g : Gr as F H F' H') (p : PVt K as mg E F H Q o) : PVt K as mg E F' H' Q o := by
  cases o with
  | ok s sp => exact fun F2 H2 g2 q => p F2 H2 (g.trans g2) q
  | exc e sp => exact fun c d F2 H2 g2 q r => p c d F2 H2 (g.trans g2) q r
  | bad => exact p
end
end Dn
namespace Dn
open PySem PySem.Spec PyProof.Rows L2

/-! ### what is read -/
def Sl.d? : Sl → Option D
  | .dat d => some d
  | .ol xs => some (.list xs)
  | .od kvs => some (.dict kvs)
  | _ => none
@[simp] theorem d?_dat (d : D) : (Sl.dat d).d? = some d := rfl
@[simp] theorem d?_ol (xs : List D) : (Sl.ol xs).d? = some (.list xs) := rfl
@[simp] theorem d?_od (xs : List (D × D)) : (Sl.od xs).d? = some (.dict xs) := rfl
/-- v reads as d -/
def Rd (K : PySem.W.Frag) (as : Option Addr) (F H : Hp) (v : V) (d : D) : Prop := ∃ s : Sl, s.d? = some d ∧ VR K as F H s v
section
variable {K : PySem.W.Frag} {as : Option Addr} {F H : Hp} {v : V}
theorem Rd.of {s : Sl} {d : D} (e : s.d? = some d) (h : VR K as F H s v) : Rd K as F H v d := ⟨s, e, h⟩
theorem Rd.int {i : Int} (h : Rd K as F H v (.int i)) : v = .int i := by
  obtain ⟨s, e, h⟩ := h
  cases s <;> simp [Sl.d?] at e
  subst e
  cases h
  rfl
theorem Rd.bool {i : Bool} (h : Rd K as F H v (.bool i)) : v = .bl i := by
  obtain ⟨s, e, h⟩ := h
  cases s <;> simp [Sl.d?] at e
  subst e
  cases h
  rfl
theorem Rd.str {i : Str} (h : Rd K as F H v (.str i)) : v = .str i := by
  obtain ⟨s, e, h⟩ := h
  cases s <;> simp [Sl.d?] at e
  subst e
  cases h
  rfl
theorem Rd.non (h : Rd K as F H v .none) : v = .non := by
  obtain ⟨s, e, h⟩ := h
  cases s <;> simp [Sl.d?] at e
  subst e
  cases h
  rfl
theorem Rd.list (l : Le F H) {xs : List D} (h : Rd K as F H v (.list xs)) : ∃ a vs, v = .ref a ∧ SqL K H a vs ∧ RpA K F vs xs := by
  obtain ⟨s, e, h⟩ := h
  cases s <;> simp [Sl.d?] at e
  · subst e
    cases h with
    | lst h r => exact ⟨_, _, rfl, l.sqL h, r⟩
  · subst e
    obtain ⟨a, vs, e, n, f, hh, r⟩ := h
    exact ⟨a, vs, e, .inl (.inl hh), r⟩
theorem Rd.tup (l : Le F H) {xs : List D} (h : Rd K as F H v (.tuple xs)) : ∃ a vs, v = .ref a ∧ SqT K H a vs ∧ RpA K F vs xs := by
  obtain ⟨s, e, h⟩ := h
  cases s <;> simp [Sl.d?] at e
  subst e
  cases h with
  | tup h r => exact ⟨_, _, rfl, l.sqT h, r⟩
theorem Rd.dict (l : Le F H) {xs : List (D × D)} (h : Rd K as F H v (.dict xs)) : ∃ a ks, v = .ref a ∧ H a = some (.dK ks) ∧ RpK K F ks xs := by
  obtain ⟨s, e, h⟩ := h
  cases s <;> simp [Sl.d?] at e
  · subst e
    cases h with
    | dic h r => exact ⟨_, _, rfl, l _ _ h, r⟩
  · subst e
    obtain ⟨a, vs, e, n, f, hh, r⟩ := h
    exact ⟨a, vs, e, hh, r⟩
theorem Rd.rp (l : Le F H) {d : D} (h : Rd K as F H v d) : Rp K H v d := by
  obtain ⟨s, e, h⟩ := h
  cases s <;> simp [Sl.d?] at e
  · subst e
    exact Rp.mono l h
  · subst e
    obtain ⟨a, vs, e, n, f, hh, r⟩ := h
    subst e
    exact .lst (.inl (.inl hh)) (r.mono l)
  · subst e
    obtain ⟨a, vs, e, n, f, hh, r⟩ := h
    subst e
    exact .dic hh (r.mono l)
end
/-- no dict within -/
def noDict : D → Bool := fun d => !d.hasDict

/-! ### names, constants -/
def dVar (i : Nat) : DE := fun ρ sp => match ρ[i]? with
  | some (.dat d) => .ok (.dat d) sp
  | some (.rg lo hi) => .ok (.rg lo hi) sp
  | _ => .bad
def dRd (i : Nat) : DE := fun ρ sp => match ρ[i]? with
  | some (.dat d) => .ok (.dat d) sp
  | some (.rg lo hi) => .ok (.rg lo hi) sp
  | some (.ol xs) => .ok (.ol xs) sp
  | some (.od xs) => .ok (.od xs) sp
  | some (.os xs) => .ok (.os xs) sp
  | _ => .bad
def dAg (i : Nat) : DE := fun ρ sp => match ρ[i]? with
  | some (.dat d) => .ok (.dat d) sp
  | some .spr => .ok .spr sp
  | _ => .bad
def dC (d : D) : DE := fun _ sp => .ok (.dat d) sp
section
variable {X : Cx} {as : Option Addr} {E : XK} {m : Md} {x : Str} {i : Nat} {pos : Pos}
theorem pd_var (hN : X.N[i]? = some x) (hv : Vis X.env.scope x) (hd : (x == ("__debug__" : Str)) = false := by decide) (hcd : (x == ("__classdict__" : Str)) = false := by decide) : PD m X as E (.Name x pos) (dVar i) := by
  refine PD.by (pe_var hN hv hd hcd) fun σ H Q F0 H0 F ρ sp r p => ?_
  unfold dVar at p
  cases q : ρ[i]? with
  | none => rw [q] at p; exact p.elim
  | some s =>
    rw [q] at p
    cases s with
    | dat d =>
      obtain ⟨v, h1, h2, h3⟩ := r.slot i _ q (fun e => nomatch e)
      exact ⟨v, h1, p v F H (Gr.refl r.le) r.sp (VM.of_dat h2)⟩
    | rg lo hi =>
      obtain ⟨v, h1, h2, h3⟩ := r.slot i _ q (fun e => nomatch e)
      exact ⟨v, h1, p v F H (Gr.refl r.le) r.sp ⟨h2, fun _ o => (nomatch o), fun _ e => nomatch e⟩⟩
    | _ => exact p.elim
theorem pd_rd (hN : X.N[i]? = some x) (hv : Vis X.env.scope x) (hd : (x == ("__debug__" : Str)) = false := by decide) (hcd : (x == ("__classdict__" : Str)) = false := by decide) : PD .rd X as E (.Name x pos) (dRd i) := by
  refine PD.by (pe_var hN hv hd hcd) fun σ H Q F0 H0 F ρ sp r p => ?_
  unfold dRd at p
  cases q : ρ[i]? with
  | none => rw [q] at p; exact p.elim
  | some s =>
    rw [q] at p
    cases s with
    | un => exact p.elim
    | spr => exact p.elim
    | _ =>
      obtain ⟨v, h1, h2, h3⟩ := r.slot i _ q (fun e => nomatch e)
      exact ⟨v, h1, p v F H (Gr.refl r.le) r.sp (VM.rd h2)⟩
theorem pd_ag (hN : X.N[i]? = some x) (hv : Vis X.env.scope x) (hd : (x == ("__debug__" : Str)) = false := by decide) (hcd : (x == ("__classdict__" : Str)) = false := by decide) : PD .ag X as E (.Name x pos) (dAg i) := by
  refine PD.by (pe_var hN hv hd hcd) fun σ H Q F0 H0 F ρ sp r p => ?_
  unfold dAg at p
  cases q : ρ[i]? with
  | none => rw [q] at p; exact p.elim
  | some s =>
    rw [q] at p
    cases s with
    | dat d =>
      obtain ⟨v, h1, h2, h3⟩ := r.slot i _ q (fun e => nomatch e)
      exact ⟨v, h1, p v F H (Gr.refl r.le) r.sp (VM.of_dat h2)⟩
    | spr =>
      obtain ⟨v, h1, h2, h3⟩ := r.slot i _ q (fun e => nomatch e)
      exact ⟨v, h1, p v F H (Gr.refl r.le) r.sp ⟨h2, fun _ o => (nomatch o), fun e => nomatch e⟩⟩
    | _ => exact p.elim
theorem pd_c {e : Expr} {v : V} {d : D} (h : PE X e (tC v)) (hr : ∀ F, Rp X.K F v d) : PD m X as E e (dC d) :=
  PD.by h fun σ H Q F0 H0 F ρ sp r p => p v F H (Gr.refl r.le) r.sp (VM.of_dat (hr F))
theorem pd_int {i : Int} {j : Nat} : PD m X as E (.Constant (.int i) j pos) (dC (.int i)) := pd_c pe_int fun _ => .int i
theorem pd_bl {i : Bool} {j : Nat} : PD m X as E (.Constant (.bool i) j pos) (dC (.bool i)) := pd_c pe_bl fun _ => .bl i
theorem pd_non {j : Nat} : PD m X as E (.Constant .none j pos) (dC .none) := pd_c pe_non fun _ => .non
theorem pd_str {i : Str} {j : Nat} : PD m X as E (.Constant (.str i) j pos) (dC (.str i)) := pd_c pe_str fun _ => .str i
theorem pd_glob {v : V} {u : Value} {d : D} (hg : Gl X x) (hm : X.mg x = some u) (r : RelV v u) (hr : ∀ F, Rp X.K F v d) (hd : (x == ("__debug__" : Str)) = false := by decide) : PD m X as E (.Name x pos) (dC d) := pd_c (pe_glob hg hm r hd) hr
end

/-! ### operators -/
def opt (o : Option Sl) (sp : SpO) : Out Sl := match o with
  | some s => .ok s sp
  | none => .bad
@[simp] theorem opt_some (s : Sl) (sp : SpO) : opt (some s) sp = .ok s sp := rfl
@[simp] theorem opt_none (sp : SpO) : opt none sp = .bad := rfl
def un1 (g : D → Option Sl) (x : Sl) : Option Sl := x.d?.bind g
def un2 (g : D → D → Option Sl) (x y : Sl) : Option Sl := x.d?.bind fun a => y.d?.bind fun b => g a b
@[simp] theorem un1_dat (g : D → Option Sl) (d : D) : un1 g (.dat d) = g d := rfl
@[simp] theorem un1_ol (g : D → Option Sl) (d : List D) : un1 g (.ol d) = g (.list d) := rfl
@[simp] theorem un1_od (g : D → Option Sl) (d : List (D × D)) : un1 g (.od d) = g (.dict d) := rfl
@[simp] theorem un2_dd (g : D → D → Option Sl) (d e : D) : un2 g (.dat d) (.dat e) = g d e := rfl
@[simp] theorem un2_ld (g : D → D → Option Sl) (d : List D) (e : D) : un2 g (.ol d) (.dat e) = g (.list d) e := rfl
@[simp] theorem un2_dl (g : D → D → Option Sl) (d : D) (e : List D) : un2 g (.dat d) (.ol e) = g d (.list e) := rfl
@[simp] theorem un2_ll (g : D → D → Option Sl) (d e : List D) : un2 g (.ol d) (.ol e) = g (.list d) (.list e) := rfl
@[simp] theorem un2_od (g : D → D → Option Sl) (d : List (D × D)) (e : D) : un2 g (.od d) (.dat e) = g (.dict d) e := rfl
/-- a step on values that keeps all: what is asked of r -/
def OpD (K : PySem.W.Frag) (r : R2) (g : D → D → Option Sl) : Prop :=
  ∀ (as : Option Addr) (F H : Hp) (x y : V) (dx dy : D) (z : Sl) (Q : VK), Le F H → Rd K as F H x dx → Rd K as F H y dy → g dx dy = some z → (∀ a, as = some a → H a ≠ none) →
    (∀ w F' H', Gr as F H F' H' → Le H H' → VM .vl K as H F' H' z w → Q w H') → r x y H Q
def dB (g : D → D → Option Sl) (ta tb : DE) : DE := fun ρ sp => (ta ρ sp).bind fun x sp1 => (tb ρ sp1).bind fun y sp2 => opt (un2 g x y) sp2
theorem SpAt.ne {as : Option Addr} {sp : SpO} {H : Hp} (s : SpAt as sp H) : ∀ a, as = some a → H a ≠ none := fun a e z => by
  subst e
  cases sp with
  | none => exact s
  | some p =>
    have s1 : H a = some (.lst [.int p.1, .int p.2.1, .int p.2.2]) := s
    rw [s1] at z; cases z
theorem un2_some {g : D → D → Option Sl} {x y z : Sl} (e : un2 g x y = some z) : ∃ dx dy, x.d? = some dx ∧ y.d? = some dy ∧ g dx dy = some z := by
  unfold un2 at e
  obtain ⟨dx, h1, e⟩ := Option.bind_eq_some_iff.mp e
  obtain ⟨dy, h2, e⟩ := Option.bind_eq_some_iff.mp e
  exact ⟨dx, dy, h1, h2, e⟩
section
variable {X : Cx} {as : Option Addr} {E : XK} {m : Md} {a b c : Expr} {ta tb tc : DE} {pos : Pos}
/-- two values, one behind the other -/
theorem two_go {r : R2} {g : D → D → Option Sl} (hg : OpD X.K r g) {σ : L2.St} {H : Hp} {Q : VK} {F0 H0 F : Hp} {ρ : Env_} {sp : SpO} (rl : Rl X.K as F0 H0 F H sp ρ σ) (p : PV m X.K as X.mg E F H Q (dB g ta tb ρ sp)) :
    TD .rd X.K as X.mg E ta σ H fun x H1 => TD .rd X.K as X.mg E tb σ H1 fun y H2 => r x y H2 Q := by
  refine ⟨F0, H0, F, ρ, sp, rl, ?_⟩
  have p1 := bindP (m' := .rd) p
  refine PV.imp p1 fun x H1 ⟨F1, s, sp1, e1, g1, q1, r1, p2⟩ => ?_
  have rl1 := rl.go g1 q1
  refine ⟨F0, H0, F1, ρ, sp1, rl1, ?_⟩
  have p3 := bindP (m' := .rd) (PV.go g1 p2)
  refine PV.imp p3 fun y H2 ⟨F2, s2, sp2, e2, g2, q2, r2, p4⟩ => ?_
  cases z : un2 g s s2 with
  | none => rw [z] at p4; exact p4.elim
  | some w =>
    rw [z] at p4
    obtain ⟨dx, dy, d1, d2, hz⟩ := un2_some z
    refine hg as F2 H2 x y dx dy w Q g2.le (Rd.of d1 (r1.1.gr g2)) (Rd.of d2 r2.1) hz q2.ne fun w' F' H' g3 k3 vm => ?_
    exact p4 w' F' H' (g2.trans g3) (q2.keep k3) (vm.any.back (g2.tr))
theorem pd_op {op : Operator} {r : R2} {g : D → D → Option Sl} (ho : OpR X (binaryOp op) r) (hg : OpD X.K r g) (ha : PD .rd X as E a ta) (hb : PD .rd X as E b tb) : PD m X as E (.BinOp a op b pos) (dB g ta tb) :=
  PD.by (pe_op ho ha.pe hb.pe) fun _ _ _ _ _ _ _ _ rl p => two_go hg rl p
theorem pd_cmp {op : CmpOp} {r : R2} {g : D → D → Option Sl} (ho : OpR X (compareOp op) r) (hg : OpD X.K r g) (ha : PD .rd X as E a ta) (hb : PD .rd X as E b tb) (hm : behindInMarks op b = false) : PD m X as E (.Compare a [op] [b] pos) (dB g ta tb) :=
  PD.by (pe_cmpR ho ha.pe hb.pe hm) fun _ _ _ _ _ _ _ _ rl p => two_go hg rl p
end
end Dn
namespace Dn
open PySem PySem.Spec PyProof.Rows L2

/-! ### reading data for the library's own rules -/
section
variable {X : Cx} {pins : List (Addr × Obj)} {σ : L2.St} {H : Hp} {s : Shared}
mutual
theorem Rp.dp {K : PySem.W.Frag} {H : Hp} : ∀ (d : D) (v : V), Rp K H v d → d.hasDict = false → Dp K H v d
  | .none, _, h, _ => by cases h; exact .non
  | .bool b, _, h, _ => by cases h; exact .bl b
  | .int i, _, h, _ => by cases h; exact .int i
  | .str x, _, h, _ => by cases h; exact .str x
  | .list ds, _, h, n => by
    cases h with
    | lst h r => exact .lst h (RpA.dp ds _ r (by simpa [PyData.hasDict] using n))
  | .tuple ds, _, h, n => by
    cases h with
    | tup h r => exact .tup h (RpA.dp ds _ r (by simpa [PyData.hasDict] using n))
  | .dict ds, _, _, n => by simp [PyData.hasDict] at n
theorem RpA.dp {K : PySem.W.Frag} {H : Hp} : ∀ (ds : List D) (vs : List V), RpA K H vs ds → PyData.hasDictAll ds = false → DpAll K H vs ds
  | [], _, h, _ => by cases h; exact .nil
  | d :: ds, _, h, n => by
    cases h with
    | cons h r =>
      simp only [PyData.hasDictAll, Bool.or_eq_false_iff] at n
      exact .cons (Rp.dp d _ h n.1) (RpA.dp ds _ r n.2)
end
theorem Rd.dp {K : PySem.W.Frag} {as : Option Addr} {F H : Hp} {v : V} {d : D} (l : Le F H) (h : Rd K as F H v d) (n : d.hasDict = false) : Dp K H v d := Rp.dp d v (h.rp l) n
end

theorem Rd.tupF {K : PySem.W.Frag} {as : Option Addr} {F H : Hp} {v : V} {xs : List D} (h : Rd K as F H v (.tuple xs)) : Rp K F v (.tuple xs) := by
  obtain ⟨s, e, h⟩ := h
  cases s <;> simp [Sl.d?] at e
  subst e
  exact h
/-! ### the operators, by values -/
def mulOk (i j : Int) : Bool := (decide (i.natAbs < 2 ^ 64) || decide (j.natAbs < 2 ^ 64)) || decide (i.natAbs.log2 + j.natAbs.log2 < 1000000)
def gAdd : D → D → Option Sl
  | .int i, .int j => some (.dat (.int (i + j)))
  | .list a, .list b => if a.length + b.length ≤ sizeLine then some (.ol (a ++ b)) else none
  | .tuple a, .tuple b => if a.length + b.length ≤ sizeLine then some (.dat (.tuple (a ++ b))) else none
  | _, _ => none
def gSub : D → D → Option Sl
  | .int i, .int j => some (.dat (.int (i - j)))
  | _, _ => none
def gMul : D → D → Option Sl
  | .int i, .int j => if mulOk i j then some (.dat (.int (i * j))) else none
  | _, _ => none
def gFdiv : D → D → Option Sl
  | .int i, .int j => if j ≠ 0 ∧ Builtin.divisionGoesByPylong i j = false then some (.dat (.int (i.fdiv j))) else none
  | _, _ => none
def gMod : D → D → Option Sl
  | .int i, .int j => if j ≠ 0 then some (.dat (.int (i.fmod j))) else none
  | _, _ => none
def gPow : D → D → Option Sl
  | .int i, .int j => if 0 ≤ j ∧ j ≤ 1000000 ∧ i.natAbs < 2 ^ 64 then some (.dat (.int (i ^ j.toNat))) else none
  | _, _ => none
def gAnd_ : D → D → Option Sl
  | .int i, .int j => some (.dat (.int (Builtin.bitAnd i j)))
  | _, _ => none
def strs? : D → D → Option (Str × Str)
  | .str x, .str y => some (x, y)
  | _, _ => none
theorem strs?_eq {d e : D} {p : Str × Str} (h : strs? d e = some p) : d = .str p.1 ∧ e = .str p.2 := by
  unfold strs? at h
  split at h
  · cases h; exact ⟨rfl, rfl⟩
  · cases h
def gEq (d e : D) : Option Sl := match strs? d e with
  | some p => some (.dat (.bool (decide (p.1 = p.2))))
  | none => if SeqAt.shaped d && SeqAt.shaped e then some (.dat (.bool (PyData.eqv d e))) else none
def gNe (d e : D) : Option Sl := match strs? d e with
  | some p => some (.dat (.bool (!decide (p.1 = p.2))))
  | none => if SeqAt.shaped d && SeqAt.shaped e then some (.dat (.bool (!PyData.eqv d e))) else none
theorem decV {x y : Str} : decide (V.str x = V.str y) = decide (x = y) := by
  by_cases h : x = y
  · subst h; simp
  · rw [decide_eq_false h, decide_eq_false (fun q => h (by cases q; rfl))]
def gLt : D → D → Option Sl
  | .int i, .int j => some (.dat (.bool (decide (i < j))))
  | _, _ => none
def gLe : D → D → Option Sl
  | .int i, .int j => some (.dat (.bool (decide (i ≤ j))))
  | _, _ => none
def gGt : D → D → Option Sl
  | .int i, .int j => some (.dat (.bool (decide (j < i))))
  | _, _ => none
def gGe : D → D → Option Sl
  | .int i, .int j => some (.dat (.bool (decide (j ≤ i))))
  | _, _ => none
def gIn (d e : D) : Option Sl := match e with
  | .list ds => if SeqAt.shaped d && SeqAt.shaped (.list ds) then some (.dat (.bool (ds.any fun z => PyData.eqv z d))) else none
  | .tuple ds => if SeqAt.shaped d && SeqAt.shaped (.tuple ds) then some (.dat (.bool (ds.any fun z => PyData.eqv z d))) else none
  | _ => none
def gNotIn (d e : D) : Option Sl := match e with
  | .list ds => if SeqAt.shaped d && SeqAt.shaped (.list ds) then some (.dat (.bool (!ds.any fun z => PyData.eqv z d))) else none
  | .tuple ds => if SeqAt.shaped d && SeqAt.shaped (.tuple ds) then some (.dat (.bool (!ds.any fun z => PyData.eqv z d))) else none
  | _ => none
def cutD (xs : List D) (lo hi : Option Int) : List D := (xs.drop (HT.sIx xs.length 0 lo)).take (HT.sIx xs.length xs.length hi - HT.sIx xs.length 0 lo)
def gIx : D → D → Option Sl
  | .list xs, .int i => (atI xs i).map .dat
  | .tuple xs, .int i => (atI xs i).map .dat
  | _, _ => none

section
variable {X : Cx} {f : Value → Value → Sem Value}
theorem OpR.or {r r' : R2} (h : OpR X f r) (h' : OpR X f r') : OpR X f (fun x y H Q => r x y H Q ∨ r' x y H Q) := fun pins s σ H x y v u Q I rx ry q => by
  rcases q with q | q
  · exact h pins s σ H x y v u Q I rx ry q
  · exact h' pins s σ H x y v u Q I rx ry q
end
/-- a scalar answer -/
theorem ans {K : PySem.W.Frag} {as : Option Addr} {F H : Hp} {z : Sl} {Q : VK} {v : V} {d : D} (e : some (Sl.dat d) = some z) (l : Le F H) (q : ∀ w F' H', Gr as F H F' H' → Le H H' → VM .vl K as H F' H' z w → Q w H') (r : Rp K F v d) : Q v H := by
  cases e
  exact q v F H (Gr.refl l) (Le.refl H) (VM.of_dat r)
/-- a new list -/
theorem ansL {K : PySem.W.Frag} {as : Option Addr} {F H : Hp} {z : Sl} {Q : VK} {vs : List V} {ds : List D} (e : some (Sl.ol ds) = some z) (l : Le F H) (n : ∀ a, as = some a → H a ≠ none) (q : ∀ w F' H', Gr as F H F' H' → Le H H' → VM .vl K as H F' H' z w → Q w H')
    (r : RpA K F vs ds) {p : Addr} (hp : H p = none) : Q (.ref p) (upd H p (.lst vs)) := by
  cases e
  refine q _ F _ (Gr.laid1 l hp) (le_upd hp) ⟨⟨p, vs, rfl, fun e => n p e hp, l.none hp, upd_same, r⟩, fun _ _ a e => ?_, fun _ e => nomatch e⟩
  cases e
  exact hp
/-- a new tuple -/
theorem ansT {K : PySem.W.Frag} {as : Option Addr} {F H : Hp} {z : Sl} {Q : VK} {vs : List V} {ds : List D} (e : some (Sl.dat (.tuple ds)) = some z) (l : Le F H) (q : ∀ w F' H', Gr as F H F' H' → Le H H' → VM .vl K as H F' H' z w → Q w H')
    (r : RpA K F vs ds) {p : Addr} (hp : H p = none) : Q (.ref p) (upd H p (.tup vs)) := by
  cases e
  exact q _ _ _ (Gr.laid l hp) (le_upd hp) (VM.of_dat (.tup (.inl (.inl upd_same)) (r.mono (le_upd (l.none hp)))))
section
variable {X : Cx} {K : PySem.W.Frag}
/-- list + list, as they can be read -/
def rCatS (K : PySem.W.Frag) : R2 := fun x y H Q => ∃ l b xs zs, x = .ref l ∧ y = .ref b ∧ SqL K H l xs ∧ SqL K H b zs ∧ xs.length + zs.length ≤ sizeLine ∧ ∀ p, H p = none → Q (.ref p) (upd H p (.lst (xs ++ zs)))
theorem op_catS : OpR X (binaryOp .Add) (rCatS X.K) := by
  intro pins s σ H x y v u Q I rx ry h
  obtain ⟨l, b, xs, zs, rfl, rfl, hH, hB, hz, q⟩ := h
  cases rx
  cases ry
  obtain ⟨its, r, p1, _⟩ := I.list hH
  obtain ⟨its2, r2, p2, _⟩ := I.list hB
  obtain ⟨⟨cls, dd, data, sl⟩, ho, hc, n, hd⟩ := p1.isList
  obtain ⟨⟨cls2, dd2, data2, sl2⟩, ho2, hc2, n2, hd2⟩ := p2.isList
  simp only at hc hd hc2 hd2
  subst hc hd hc2 hd2
  have e : its.toArray ++ its2.toArray = (its ++ its2).toArray := by simp
  have hl := r.length
  have hl2 := r2.length
  refine concat_meets ⟨_, ho, rfl⟩ ⟨_, ho2, rfl⟩ noFill_list_add seq_list_add PySem.F.slot_list_add PySem.F.entry_list_add (PySem.F.args_list_add_2 _ _) (list_addW l b its.toArray its2.toArray n n2 dd dd2 sl sl2 (by simp only [List.size_toArray]; omega)) ⟨ho, ho2, ?_⟩
  rw [e]
  exact ⟨.ref _, _, I.lnew (t' := s.toks) (r.append r2) (by rw [List.length_append]; omega), rfl, q _ I.fresh⟩
theorem op_fdivA : OpR X (binaryOp .FloorDiv) (rI (fun i j => j ≠ 0 ∧ Builtin.divisionGoesByPylong i j = false) fun i j => .int (i.fdiv j)) := opI fun _ _ _ _ _ _ _ hc q => floordiv_int hc.1 q (.inl hc.2)
/-- list times int, as it can be read -/
def rRepS (K : PySem.W.Frag) : R2 := fun x y H Q => ∃ l k xs, x = .ref l ∧ y = .int k ∧ H l = some (.lst xs) ∧ -(2 ^ 63) ≤ k ∧ k < 2 ^ 63 ∧ xs.length * k.toNat ≤ sizeLine ∧
  ∀ p, H p = none → Q (.ref p) (upd H p (.lst (List.replicate k.toNat xs).flatten))
end
section
variable {K : PySem.W.Frag}
theorem gd_add : OpD K (fun x y H Q => rI0 (fun i j => .int (i + j)) x y H Q ∨ (rCatS K x y H Q ∨ rCatA K x y H Q)) gAdd := by
  intro as F H x y dx dy z Q l hx hy e n q
  unfold gAdd at e
  split at e
  · obtain rfl := hx.int
    obtain rfl := hy.int
    exact .inl ⟨_, _, rfl, rfl, ans e l q (.int _)⟩
  · rename_i a b
    split at e
    · rename_i hz
      obtain ⟨p, vs, rfl, h1, r1⟩ := hx.list l
      obtain ⟨p2, ws, rfl, h2, r2⟩ := hy.list l
      have e1 := r1.length
      have e2 := r2.length
      exact .inr (.inl ⟨p, p2, vs, ws, rfl, rfl, h1, h2, by omega, fun pp hp => ansL e l n q (r1.append r2) hp⟩)
    · cases e
  · rename_i a b
    split at e
    · rename_i hz
      obtain ⟨p, vs, rfl, h1, r1⟩ := hx.tup l
      obtain ⟨p2, ws, rfl, h2, r2⟩ := hy.tup l
      have e1 := r1.length
      have e2 := r2.length
      refine .inr (.inr ⟨p, p2, vs, ws, rfl, rfl, h1, h2, by omega, fun h => ?_, fun _ h => ?_, fun _ _ pp hp => ansT e l q (r1.append r2) hp⟩)
      · subst h
        cases r1
        exact ans e l q hy.tupF
      · subst h
        cases r2
        rw [List.append_nil] at e
        exact ans e l q hx.tupF
    · cases e
  · cases e
theorem gd_sub : OpD K (rI0 fun i j => .int (i - j)) gSub := by
  intro as F H x y dx dy z Q l hx hy e n q
  unfold gSub at e
  split at e
  · obtain rfl := hx.int
    obtain rfl := hy.int
    exact ⟨_, _, rfl, rfl, ans e l q (.int _)⟩
  · cases e
theorem gd_mod : OpD K (rI (fun _ j => j ≠ 0) fun i j => .int (i.fmod j)) gMod := by
  intro as F H x y dx dy z Q l hx hy e n q
  unfold gMod at e
  split at e
  · obtain rfl := hx.int
    obtain rfl := hy.int
    split at e
    · rename_i h
      exact ⟨_, _, rfl, rfl, h, ans e l q (.int _)⟩
    · cases e
  · cases e
theorem gd_fdiv : OpD K (rI (fun i j => j ≠ 0 ∧ Builtin.divisionGoesByPylong i j = false) fun i j => .int (i.fdiv j)) gFdiv := by
  intro as F H x y dx dy z Q l hx hy e n q
  unfold gFdiv at e
  split at e
  · obtain rfl := hx.int
    obtain rfl := hy.int
    split at e
    · rename_i h
      exact ⟨_, _, rfl, rfl, h, ans e l q (.int _)⟩
    · cases e
  · cases e
theorem gd_pow : OpD K (rI CPow fun i j => .int (i ^ j.toNat)) gPow := by
  intro as F H x y dx dy z Q l hx hy e n q
  unfold gPow at e
  split at e
  · obtain rfl := hx.int
    obtain rfl := hy.int
    split at e
    · rename_i h
      exact ⟨_, _, rfl, rfl, h, ans e l q (.int _)⟩
    · cases e
  · cases e
theorem gd_band : OpD K (rI0 fun i j => .int (Builtin.bitAnd i j)) gAnd_ := by
  intro as F H x y dx dy z Q l hx hy e n q
  unfold gAnd_ at e
  split at e
  · obtain rfl := hx.int
    obtain rfl := hy.int
    exact ⟨_, _, rfl, rfl, ans e l q (.int _)⟩
  · cases e
theorem mulOk_c {i j : Int} (h : mulOk i j = true) : CMul i j ∨ CMulW i j := by
  unfold mulOk at h
  rw [Bool.or_eq_true, Bool.or_eq_true] at h
  rcases h with (h | h) | h
  · have := of_decide_eq_true h
    exact .inl (.inl (by omega))
  · have := of_decide_eq_true h
    exact .inl (.inr (by omega))
  · exact .inr (show _ < _ from of_decide_eq_true h)
theorem gd_mul : OpD K (fun x y H Q => rI CMul (fun i j => .int (i * j)) x y H Q ∨ rI CMulW (fun i j => .int (i * j)) x y H Q) gMul := by
  intro as F H x y dx dy z Q l hx hy e n q
  unfold gMul at e
  split at e
  · obtain rfl := hx.int
    obtain rfl := hy.int
    split at e
    · rename_i h
      rcases mulOk_c h with h | h
      · exact .inl ⟨_, _, rfl, rfl, h, ans e l q (.int _)⟩
      · exact .inr ⟨_, _, rfl, rfl, h, ans e l q (.int _)⟩
    · cases e
  · cases e
/-- comparisons of ints -/
theorem gd_lt : OpD K (rI0 fun i j => .bl (decide (i < j))) gLt := by
  intro as F H x y dx dy z Q l hx hy e n q
  unfold gLt at e
  split at e
  · obtain rfl := hx.int
    obtain rfl := hy.int
    exact ⟨_, _, rfl, rfl, ans e l q (.bl _)⟩
  · cases e
theorem gd_le : OpD K (rI0 fun i j => .bl (decide (i ≤ j))) gLe := by
  intro as F H x y dx dy z Q l hx hy e n q
  unfold gLe at e
  split at e
  · obtain rfl := hx.int
    obtain rfl := hy.int
    exact ⟨_, _, rfl, rfl, ans e l q (.bl _)⟩
  · cases e
theorem gd_gt : OpD K (rI0 fun i j => .bl (decide (j < i))) gGt := by
  intro as F H x y dx dy z Q l hx hy e n q
  unfold gGt at e
  split at e
  · obtain rfl := hx.int
    obtain rfl := hy.int
    exact ⟨_, _, rfl, rfl, ans e l q (.bl _)⟩
  · cases e
theorem gd_ge : OpD K (rI0 fun i j => .bl (decide (j ≤ i))) gGe := by
  intro as F H x y dx dy z Q l hx hy e n q
  unfold gGe at e
  split at e
  · obtain rfl := hx.int
    obtain rfl := hy.int
    exact ⟨_, _, rfl, rfl, ans e l q (.bl _)⟩
  · cases e
theorem shaped_noDict {d : D} (h : SeqAt.shaped d = true) : d.hasDict = false := PyData.hasDict_of_canLay d (SeqAt.canLay_of_shaped h)
theorem gd_eq : OpD K (fun x y H Q => rEqD K x y H Q ∨ rEq x y H Q) gEq := by
  intro as F H x y dx dy z Q l hx hy e n q
  unfold gEq at e
  split at e
  · rename_i pp hp
    obtain ⟨rfl, rfl⟩ := strs?_eq hp
    obtain rfl := hx.str
    obtain rfl := hy.str
    refine .inr ⟨rfl, ?_⟩
    rw [decV]
    exact ans e l q (.bl _)
  · split at e
    · rename_i h
      rw [Bool.and_eq_true] at h
      exact .inl ⟨dx, dy, hx.dp l (shaped_noDict h.1), hy.dp l (shaped_noDict h.2), h.1, h.2, ans e l q (.bl _)⟩
    · cases e
theorem gd_ne : OpD K (fun x y H Q => rNeD K x y H Q ∨ rNe x y H Q) gNe := by
  intro as F H x y dx dy z Q l hx hy e n q
  unfold gNe at e
  split at e
  · rename_i pp hp
    obtain ⟨rfl, rfl⟩ := strs?_eq hp
    obtain rfl := hx.str
    obtain rfl := hy.str
    refine .inr ⟨rfl, ?_⟩
    rw [decV]
    exact ans e l q (.bl _)
  · split at e
    · rename_i h
      rw [Bool.and_eq_true] at h
      exact .inl ⟨dx, dy, hx.dp l (shaped_noDict h.1), hy.dp l (shaped_noDict h.2), h.1, h.2, ans e l q (.bl _)⟩
    · cases e
end
section
variable {X : Cx}
/-- x in a list or a tuple of data -/
def rInS (K : PySem.W.Frag) (neg : Bool) : R2 := fun x y H Q => ∃ d ds, Dp K H x d ∧ (Dp K H y (.list ds) ∨ Dp K H y (.tuple ds)) ∧ SeqAt.shaped d = true ∧ SeqAt.shaped (.list ds) = true ∧ Q (.bl (neg != ds.any fun z => PyData.eqv z d)) H
theorem op_inS (hu : X.A.units + 65 < cLine) : OpR X (compareOp .In) (rInS X.K false) := by
  intro pins s σ H x y v u Q I rx ry h
  obtain ⟨d, ds, hd, he, sd, se, q⟩ := h
  rw [Bool.false_bne] at q
  obtain ⟨as, r1⟩ := Dp.reads I d x v hd rx
  rcases he with he | he
  · obtain ⟨bs, r2⟩ := Dp.reads I _ y u he ry
    exact SeqAt.in_list_reads r2 r1 (SeqAt.canLay_of_shaped se) (SeqAt.canLay_of_shaped sd) (room_in_shaped sd hu) ⟨.bl _, H, I, rfl, q⟩
  · obtain ⟨bs, r2⟩ := Dp.reads I _ y u he ry
    exact SeqAt.in_tuple_reads r2 r1 (SeqAt.canLay_of_shaped se) (SeqAt.canLay_of_shaped sd) (room_in_shaped sd hu) ⟨.bl _, H, I, rfl, q⟩
theorem op_notInS (hu : X.A.units + 65 < cLine) : OpR X (compareOp .NotIn) (rInS X.K true) := by
  intro pins s σ H x y v u Q I rx ry h
  obtain ⟨d, ds, hd, he, sd, se, q⟩ := h
  rw [Bool.true_bne] at q
  obtain ⟨as, r1⟩ := Dp.reads I d x v hd rx
  rcases he with he | he
  · obtain ⟨bs, r2⟩ := Dp.reads I _ y u he ry
    exact SeqAt.notIn_list_reads r2 r1 (SeqAt.canLay_of_shaped se) (SeqAt.canLay_of_shaped sd) (room_in_shaped sd hu) ⟨.bl _, H, I, rfl, q⟩
  · obtain ⟨bs, r2⟩ := Dp.reads I _ y u he ry
    exact SeqAt.notIn_tuple_reads r2 r1 (SeqAt.canLay_of_shaped se) (SeqAt.canLay_of_shaped sd) (room_in_shaped sd hu) ⟨.bl _, H, I, rfl, q⟩
theorem shaped_tup {ds : List D} : SeqAt.shaped (.tuple ds) = SeqAt.shaped (.list ds) := by
  unfold SeqAt.shaped
  simp only [PyData.canLay0, PyData.depth]
  rfl
theorem gd_in {K : PySem.W.Frag} : OpD K (rInS K false) gIn := by
  intro as F H x y dx dy z Q l hx hy e n q
  unfold gIn at e
  split at e
  · split at e
    · rename_i h
      rw [Bool.and_eq_true] at h
      exact ⟨dx, _, hx.dp l (shaped_noDict h.1), .inl (hy.dp l (shaped_noDict h.2)), h.1, h.2, by rw [Bool.false_bne]; exact ans e l q (.bl _)⟩
    · cases e
  · split at e
    · rename_i h
      rw [Bool.and_eq_true] at h
      exact ⟨dx, _, hx.dp l (shaped_noDict h.1), .inr (hy.dp l (shaped_noDict h.2)), h.1, shaped_tup ▸ h.2, by rw [Bool.false_bne]; exact ans e l q (.bl _)⟩
    · cases e
  · cases e
theorem gd_notIn {K : PySem.W.Frag} : OpD K (rInS K true) gNotIn := by
  intro as F H x y dx dy z Q l hx hy e n q
  unfold gNotIn at e
  split at e
  · split at e
    · rename_i h
      rw [Bool.and_eq_true] at h
      exact ⟨dx, _, hx.dp l (shaped_noDict h.1), .inl (hy.dp l (shaped_noDict h.2)), h.1, h.2, by rw [Bool.true_bne]; exact ans e l q (.bl _)⟩
    · cases e
  · split at e
    · rename_i h
      rw [Bool.and_eq_true] at h
      exact ⟨dx, _, hx.dp l (shaped_noDict h.1), .inr (hy.dp l (shaped_noDict h.2)), h.1, shaped_tup ▸ h.2, by rw [Bool.true_bne]; exact ans e l q (.bl _)⟩
    · cases e
  · cases e
end
/-! ### the rules for operators -/
section
variable {X : Cx} {as : Option Addr} {E : XK} {m : Md} {a b c : Expr} {ta tb tc : DE} {pos : Pos}
theorem pd_add (ha : PD .rd X as E a ta) (hb : PD .rd X as E b tb) : PD m X as E (.BinOp a .Add b pos) (dB gAdd ta tb) := pd_op (op_add.or (op_catS.or op_catA)) gd_add ha hb
theorem pd_sub (ha : PD .rd X as E a ta) (hb : PD .rd X as E b tb) : PD m X as E (.BinOp a .Sub b pos) (dB gSub ta tb) := pd_op op_sub gd_sub ha hb
theorem pd_mul (ha : PD .rd X as E a ta) (hb : PD .rd X as E b tb) : PD m X as E (.BinOp a .Mult b pos) (dB gMul ta tb) := pd_op (op_mul.or op_mulW) gd_mul ha hb
theorem pd_fdiv (ha : PD .rd X as E a ta) (hb : PD .rd X as E b tb) : PD m X as E (.BinOp a .FloorDiv b pos) (dB gFdiv ta tb) := pd_op op_fdivA gd_fdiv ha hb
theorem pd_mod (ha : PD .rd X as E a ta) (hb : PD .rd X as E b tb) : PD m X as E (.BinOp a .Mod b pos) (dB gMod ta tb) := pd_op op_modN gd_mod ha hb
theorem pd_pow (ha : PD .rd X as E a ta) (hb : PD .rd X as E b tb) : PD m X as E (.BinOp a .Pow b pos) (dB gPow ta tb) := pd_op op_pow gd_pow ha hb
theorem pd_band (ha : PD .rd X as E a ta) (hb : PD .rd X as E b tb) : PD m X as E (.BinOp a .BitAnd b pos) (dB gAnd_ ta tb) := pd_op op_and gd_band ha hb
theorem pd_eq (hu : X.A.units + 64 < cLine) (ha : PD .rd X as E a ta) (hb : PD .rd X as E b tb) : PD m X as E (.Compare a [.Eq] [b] pos) (dB gEq ta tb) := pd_cmp ((op_eqD hu).or op_eq) gd_eq ha hb (nobehind _ (by decide) (by decide))
theorem pd_ne (hu : X.A.units + 64 < cLine) (ha : PD .rd X as E a ta) (hb : PD .rd X as E b tb) : PD m X as E (.Compare a [.NotEq] [b] pos) (dB gNe ta tb) := pd_cmp ((op_neD hu).or op_ne) gd_ne ha hb (nobehind _ (by decide) (by decide))
theorem pd_lt (ha : PD .rd X as E a ta) (hb : PD .rd X as E b tb) : PD m X as E (.Compare a [.Lt] [b] pos) (dB gLt ta tb) := pd_cmp op_lt gd_lt ha hb (nobehind _ (by decide) (by decide))
theorem pd_le (ha : PD .rd X as E a ta) (hb : PD .rd X as E b tb) : PD m X as E (.Compare a [.LtE] [b] pos) (dB gLe ta tb) := pd_cmp op_le gd_le ha hb (nobehind _ (by decide) (by decide))
theorem pd_gt (ha : PD .rd X as E a ta) (hb : PD .rd X as E b tb) : PD m X as E (.Compare a [.Gt] [b] pos) (dB gGt ta tb) := pd_cmp op_gt gd_gt ha hb (nobehind _ (by decide) (by decide))
theorem pd_ge (ha : PD .rd X as E a ta) (hb : PD .rd X as E b tb) : PD m X as E (.Compare a [.GtE] [b] pos) (dB gGe ta tb) := pd_cmp op_ge gd_ge ha hb (nobehind _ (by decide) (by decide))
theorem pd_in (hu : X.A.units + 65 < cLine) (ha : PD .rd X as E a ta) (hb : PD .rd X as E b tb) (hm : behindInMarks .In b = false := by rfl) : PD m X as E (.Compare a [.In] [b] pos) (dB gIn ta tb) := pd_cmp (op_inS hu) gd_in ha hb hm
theorem pd_notIn (hu : X.A.units + 65 < cLine) (ha : PD .rd X as E a ta) (hb : PD .rd X as E b tb) (hm : behindInMarks .NotIn b = false := by rfl) : PD m X as E (.Compare a [.NotIn] [b] pos) (dB gNotIn ta tb) := pd_cmp (op_notInS hu) gd_notIn ha hb hm
end
end Dn
namespace Dn
open PySem PySem.Spec PyProof.Rows L2

/-! ### steps of any kind -/
def PO {α : Type} (K : PySem.W.Frag) (as : Option Addr) (mg : Str → Option Value) (E : XK) (F H : Hp) (G : α → SpO → Prop) : Out α → Prop
  | .ok a sp => G a sp
  | .exc e sp => ∀ c d F' H', Gr as F H F' H' → SpAt as sp H' → ExR K as mg e c d F' H' → E c d H'
  | .bad => False
section
variable {K : PySem.W.Frag} {as : Option Addr} {mg : Str → Option Value} {E : XK} {F H F' H' : Hp} {m m' : Md} {Q : VK}
theorem PV.po {o : Out Sl} (p : PV m K as mg E F H Q o) : PO K as mg E F H (fun s sp => ∀ v F' H', Gr as F H F' H' → SpAt as sp H' → VM m K as H F' H' s v → Q v H') o := by cases o <;> exact p
theorem PV.ofpo {o : Out Sl} (p : PO K as mg E F H (fun s sp => ∀ v F' H', Gr as F H F' H' → SpAt as sp H' → VM m K as H F' H' s v → Q v H') o) : PV m K as mg E F H Q o := by cases o <;> exact p
theorem PVt.po {Q : Bool → Hp → Prop} {o : Out Bool} (p : PVt K as mg E F H Q o) : PO K as mg E F H (fun b sp => ∀ F' H', Gr as F H F' H' → SpAt as sp H' → Q b H') o := by cases o <;> exact p
theorem PVa.po {Q : List V → Hp → Prop} {o : Out (List Sl)} (p : PVa m K as mg E F H Q o) : PO K as mg E F H (fun ss sp => ∀ vs F' H', Gr as F H F' H' → SpAt as sp H' → Side m K as H F' H' ss vs → Q vs H') o := by cases o <;> exact p
theorem bindQ {β : Type} {G : β → SpO → Prop} {o : Out Sl} {f : Sl → SpO → Out β} (p : PO K as mg E F H G (o.bind f)) :
    PV m' K as mg E F H (fun v H1 => ∃ F' s sp, o = .ok s sp ∧ Gr as F H F' H1 ∧ SpAt as sp H1 ∧ VM m' K as H F' H1 s v ∧ PO K as mg E F H G (f s sp)) o := by
  cases o with
  | ok s sp => exact fun v F' H' g q r => ⟨F', s, sp, rfl, g, q, r, p⟩
  | exc e sp => exact p
  | bad => exact p
theorem bindQt {β : Type} {G : β → SpO → Prop} {o : Out Bool} {f : Bool → SpO → Out β} (p : PO K as mg E F H G (o.bind f)) :
    PVt K as mg E F H (fun b H1 => ∃ F' sp, o = .ok b sp ∧ Gr as F H F' H1 ∧ SpAt as sp H1 ∧ PO K as mg E F H G (f b sp)) o := by
  cases o with
  | ok s sp => exact fun F' H' g q => ⟨F', sp, rfl, g, q, p⟩
  | exc e sp => exact p
  | bad => exact p
theorem bindQa {β : Type} {G : β → SpO → Prop} {o : Out (List Sl)} {f : List Sl → SpO → Out β} (p : PO K as mg E F H G (o.bind f)) :
    PVa m' K as mg E F H (fun vs H1 => ∃ F' ss sp, o = .ok ss sp ∧ Gr as F H F' H1 ∧ SpAt as sp H1 ∧ Side m' K as H F' H1 ss vs ∧ PO K as mg E F H G (f ss sp)) o := by
  cases o with
  | ok s sp => exact fun v F' H' g q r => ⟨F', s, sp, rfl, g, q, r, p⟩
  | exc e sp => exact p
  | bad => exact p
theorem PO.go {α : Type} {G : α → SpO → Prop} {o : Out α} (g : Gr as F H F' H') (p : PO K as mg E F H G o) : PO K as mg E F' H' G o := by
  cases o with
  | ok s sp => exact p
  | exc e sp => exact fun c d F2 H2 g2 q r => p c d F2 H2 (g.trans g2) q r
  | bad => exact p
theorem bindQa2 {β : Type} {G : β → SpO → Prop} {F1 H1 : Hp} {o : Out (List Sl)} {f : List Sl → SpO → Out β} (g1 : Gr as F H F1 H1) (p : PO K as mg E F H G (o.bind f)) :
    PVa m' K as mg E F1 H1 (fun vs H2 => ∃ F' ss sp, o = .ok ss sp ∧ Gr as F1 H1 F' H2 ∧ SpAt as sp H2 ∧ Side m' K as H1 F' H2 ss vs ∧ PO K as mg E F H G (f ss sp)) o := by
  cases o with
  | ok s sp => exact fun v F' H' g q r => ⟨F', s, sp, rfl, g, q, r, p⟩
  | exc e sp => exact fun c d F2 H2 g2 q r => p c d F2 H2 (g1.trans g2) q r
  | bad => exact p
theorem PVt.imp {Q Q' : Bool → Hp → Prop} {o : Out Bool} (p : PVt K as mg E F H Q o) (h : ∀ v H', Q v H' → Q' v H') : PVt K as mg E F H Q' o := by
  cases o with
  | ok s sp => exact fun F' H' g q => h _ _ (p F' H' g q)
  | exc e sp => exact p
  | bad => exact p
theorem PVa.imp {Q Q' : List V → Hp → Prop} {o : Out (List Sl)} (p : PVa m K as mg E F H Q o) (h : ∀ v H', Q v H' → Q' v H') : PVa m K as mg E F H Q' o := by
  cases o with
  | ok s sp => exact fun v F' H' g q r => h _ _ (p v F' H' g q r)
  | exc e sp => exact p
  | bad => exact p
/-- what is left, from a grown heap on -/
theorem PO.v (g : Gr as F H F' H') {o : Out Sl} (p : PO K as mg E F H (fun s sp => ∀ v F' H', Gr as F H F' H' → SpAt as sp H' → VM m K as H F' H' s v → Q v H') o) : PV m K as mg E F' H' Q o := PV.go g (PV.ofpo p)
theorem PO.v2 (g : Gr as F H F' H') {o : Out Sl} (p : PO K as mg E F' H' (fun s sp => ∀ v F' H', Gr as F H F' H' → SpAt as sp H' → VM m K as H F' H' s v → Q v H') o) : PV m K as mg E F' H' Q o := by
  cases o with
  | ok s sp => exact fun v F2 H2 g2 q r => p v F2 H2 (g.trans g2) q (r.back g.tr)
  | exc e sp => exact p
  | bad => exact p
theorem PO.t (g : Gr as F H F' H') {Q : Bool → Hp → Prop} {o : Out Bool} (p : PO K as mg E F H (fun b sp => ∀ F' H', Gr as F H F' H' → SpAt as sp H' → Q b H') o) : PVt K as mg E F' H' Q o := by
  cases o with
  | ok s sp => exact fun F2 H2 g2 q => p F2 H2 (g.trans g2) q
  | exc e sp => exact fun c d F2 H2 g2 q r => p c d F2 H2 (g.trans g2) q r
  | bad => exact p
theorem Side.back {H0 H1 F2 H2 : Hp} {ss : List Sl} {vs : List V} (k : ∀ a, H1 a = none → H0 a = none) (h : Side m K as H1 F2 H2 ss vs) : Side m K as H0 F2 H2 ss vs := ⟨Paired.mapP h.1 fun _ _ r => r.back k, h.2⟩
theorem PO.a (g : Gr as F H F' H') {Q : List V → Hp → Prop} {o : Out (List Sl)} (p : PO K as mg E F H (fun ss sp => ∀ vs F' H', Gr as F H F' H' → SpAt as sp H' → Side m K as H F' H' ss vs → Q vs H') o) : PVa m K as mg E F' H' Q o := by
  cases o with
  | ok s sp => exact fun v F2 H2 g2 q r => p v F2 H2 (g.trans g2) q (r.back g.tr)
  | exc e sp => exact fun c d F2 H2 g2 q r => p c d F2 H2 (g.trans g2) q r
  | bad => exact p
end

/-! ### tests -/
def tru : Sl → Option Bool
  | .dat .none => some false
  | .dat (.bool b) => some b
  | .dat (.int i) => some (i != 0)
  | .dat (.str y) => if y.length ≤ sizeLine then some ((y.length : Int) != 0) else none
  | .dat (.list xs) => some (!xs.isEmpty)
  | .dat (.tuple xs) => some (!xs.isEmpty)
  | .dat (.dict xs) => some (!xs.isEmpty)
  | .ol xs => some (!xs.isEmpty)
  | .od xs => some (!xs.isEmpty)
  | _ => none
def isB : Sl → Option Bool
  | .dat (.bool b) => some b
  | _ => none
def optB (o : Option Bool) (sp : SpO) : Out Bool := match o with
  | some s => .ok s sp
  | none => .bad
@[simp] theorem optB_some (s : Bool) (sp : SpO) : optB (some s) sp = .ok s sp := rfl
@[simp] theorem optB_none (sp : SpO) : optB none sp = .bad := rfl
def dTru (t : DE) : DT := fun ρ sp => (t ρ sp).bind fun s sp1 => optB (tru s) sp1
def dTb (t : DE) : DT := fun ρ sp => (t ρ sp).bind fun s sp1 => optB (isB s) sp1
def dAndT (t u : DT) : DT := fun ρ sp => (t ρ sp).bind fun b sp1 => if b = true then u ρ sp1 else .ok false sp1
def dOrT (t u : DT) : DT := fun ρ sp => (t ρ sp).bind fun b sp1 => if b = true then .ok true sp1 else u ρ sp1
def dNotT (t : DT) : DT := fun ρ sp => (t ρ sp).bind fun b sp1 => .ok (!b) sp1
def dAnd (t u : DE) : DE := fun ρ sp => (t ρ sp).bind fun s sp1 => match isB s with
  | some true => u ρ sp1
  | some false => .ok (.dat (.bool false)) sp1
  | none => .bad
def dOr (t u : DE) : DE := fun ρ sp => (t ρ sp).bind fun s sp1 => match isB s with
  | some false => u ρ sp1
  | some true => .ok (.dat (.bool true)) sp1
  | none => .bad
def dNot (t : DE) : DE := fun ρ sp => (t ρ sp).bind fun s sp1 => match isB s with
  | some b => .ok (.dat (.bool (!b))) sp1
  | none => .bad
def dIf (c : DT) (t u : DE) : DE := fun ρ sp => (c ρ sp).bind fun b sp1 => if b = true then t ρ sp1 else u ρ sp1
def dNeg (t : DE) : DE := fun ρ sp => (t ρ sp).bind fun s sp1 => match s with
  | .dat (.int i) => .ok (.dat (.int (-i))) sp1
  | _ => .bad
theorem isB_v {K : PySem.W.Frag} {as : Option Addr} {F H : Hp} {s : Sl} {v : V} {b : Bool} (e : isB s = some b) (h : VR K as F H s v) : v = .bl b := by
  unfold isB at e
  split at e
  · cases e
    cases h
    rfl
  · cases e
theorem tru_v {K : PySem.W.Frag} {as : Option Addr} {F H : Hp} {s : Sl} {v : V} {b : Bool} (l : Le F H) (e : tru s = some b) (h : VR K as F H s v) : TruV K v H b := by
  have hd : ∀ {d : D}, s.d? = some d → Rd K as F H v d := fun e => Rd.of e h
  unfold tru at e
  split at e
  · cases e; obtain rfl := (hd rfl).non; rfl
  · cases e; obtain rfl := (hd rfl).bool; rfl
  · cases e; obtain rfl := (hd rfl).int; rfl
  · rename_i y
    split at e
    · rename_i hy
      cases e; obtain rfl := (hd rfl).str; exact ⟨hy, rfl⟩
    · cases e
  · cases e
    obtain ⟨a, vs, rfl, h1, r⟩ := (hd rfl).list l
    exact .inl ⟨vs, h1, by cases r <;> rfl⟩
  · cases e
    obtain ⟨a, vs, rfl, h1, r⟩ := (hd rfl).tup l
    exact .inr (.inl ⟨vs, h1, by cases r <;> rfl⟩)
  · cases e
    obtain ⟨a, vs, rfl, h1, r⟩ := (hd rfl).dict l
    exact .inr (.inr ⟨vs, h1, by cases r <;> rfl⟩)
  · cases e
    obtain ⟨a, vs, rfl, h1, r⟩ := (hd rfl).list l
    exact .inl ⟨vs, h1, by cases r <;> rfl⟩
  · cases e
    obtain ⟨a, vs, rfl, h1, r⟩ := (hd rfl).dict l
    exact .inr (.inr ⟨vs, h1, by cases r <;> rfl⟩)
  · cases e
section
variable {X : Cx} {as : Option Addr} {E : XK} {m : Md} {a b c : Expr} {rest : List Expr} {ta tb tc : DE} {ua ub : DT} {pos : Pos}
theorem pdt_tru (ha : PD .rd X as E a ta) (he : ∀ whole, isTrue a X.env whole = (do let v ← whole; standAt a.pos; holding [v] (truthy v)) := by intro _; rfl) : PDt X as E a (dTru ta) :=
  PDt.by (pt_truth ha.pe he) fun σ H Q F0 H0 F ρ sp rl p => by
    refine ⟨F0, H0, F, ρ, sp, rl, PV.imp (bindQ (m' := .rd) p.po) fun v H1 ⟨F1, s, sp1, e1, g1, q1, r1, p2⟩ => ?_⟩
    cases z : tru s with
    | none => rw [z] at p2; exact p2.elim
    | some k =>
      rw [z] at p2
      exact ⟨k, tru_v g1.le z r1.1, p2 F1 H1 g1 q1⟩
theorem pdt_cmp {op : CmpOp} {r : R2} {g : D → D → Option Sl} (ho : OpR X (compareOp op) r) (hg : OpD X.K r g) (ha : PD .rd X as E a ta) (hb : PD .rd X as E b tb) (hm : behindInMarks op b = false) : PDt X as E (.Compare a [op] [b] pos) (dTb (dB g ta tb)) :=
  PDt.by (pt_cmpR ho ha.pe hb.pe hm) fun σ H Q F0 H0 F ρ sp rl p => by
    refine two_go (m := .rd) (Q := fun x H' => ∃ k, x = .bl k ∧ Q k H') hg rl (PV.imp (bindQ (m' := .rd) p.po) fun v H1 ⟨F1, s, sp1, e1, g1, q1, r1, p2⟩ => ?_)
    cases z : isB s with
    | none => rw [z] at p2; exact p2.elim
    | some k =>
      rw [z] at p2
      exact ⟨k, isB_v z r1.1, p2 F1 H1 g1 q1⟩
theorem pdt_and (ha : PDt X as E a ua) (hb : PW X (.BoolOp .And (b :: rest) pos) (TDt X.K as X.mg E ub)) : PW X (.BoolOp .And (a :: b :: rest) pos) (TDt X.K as X.mg E (dAndT ua ub)) :=
  ⟨fun wh pins s σ H Q I ⟨F0, H0, F, ρ, sp, rl, p⟩ => (pw_and ha.pt hb).run wh pins s σ H Q I (by
    refine ⟨F0, H0, F, ρ, sp, rl, PVt.imp (bindQt p.po) fun b H1 ⟨F1, sp1, e1, g1, q1, p2⟩ => ?_⟩
    cases b with
    | true =>
      rw [if_pos rfl] at p2 ⊢
      exact ⟨F0, H0, F1, ρ, sp1, rl.go g1 q1, PO.t g1 p2⟩
    | false =>
      rw [if_neg Bool.false_ne_true] at p2 ⊢
      exact p2 F1 H1 g1 q1)⟩
theorem pdt_or (ha : PDt X as E a ua) (hb : PW X (.BoolOp .Or (b :: rest) pos) (TDt X.K as X.mg E ub)) : PW X (.BoolOp .Or (a :: b :: rest) pos) (TDt X.K as X.mg E (dOrT ua ub)) :=
  ⟨fun wh pins s σ H Q I ⟨F0, H0, F, ρ, sp, rl, p⟩ => (pw_or ha.pt hb).run wh pins s σ H Q I (by
    refine ⟨F0, H0, F, ρ, sp, rl, PVt.imp (bindQt p.po) fun b H1 ⟨F1, sp1, e1, g1, q1, p2⟩ => ?_⟩
    cases b with
    | false =>
      rw [if_neg Bool.false_ne_true] at p2 ⊢
      exact ⟨F0, H0, F1, ρ, sp1, rl.go g1 q1, PO.t g1 p2⟩
    | true =>
      rw [if_pos rfl] at p2 ⊢
      exact p2 F1 H1 g1 q1)⟩
theorem pdt_and1 (ha : PDt X as E a ua) : PW X (.BoolOp .And [a] pos) (TDt X.K as X.mg E ua) := pw_and1 ha.pt
theorem pdt_or1 (ha : PDt X as E a ua) : PW X (.BoolOp .Or [a] pos) (TDt X.K as X.mg E ua) := pw_or1 ha.pt
theorem pdt_w {e : Expr} (h : PW X e (TDt X.K as X.mg E ua)) : PDt X as E e ua := ⟨h.pt⟩
theorem pdt_not (ha : PDt X as E a ua) : PDt X as E (.UnaryOp .Not a pos) (dNotT ua) :=
  PDt.by (pt_not ha.pt) fun σ H Q F0 H0 F ρ sp rl p => ⟨F0, H0, F, ρ, sp, rl, PVt.imp (bindQt p.po) fun b H1 ⟨F1, sp1, e1, g1, q1, p2⟩ => p2 F1 H1 g1 q1⟩
theorem pd_one {op : BoolOp} (ha : PD m X as E a ta) : PD m X as E (.BoolOp op [a] pos) ta := ⟨pe_one ha.pe⟩
theorem pd_and (ha : PD .rd X as E a ta) (hb : PD m X as E (.BoolOp .And (b :: rest) pos) tb) : PD m X as E (.BoolOp .And (a :: b :: rest) pos) (dAnd ta tb) :=
  PD.by (pe_and ha.pe hb.pe) fun σ H Q F0 H0 F ρ sp rl p => by
    refine ⟨F0, H0, F, ρ, sp, rl, PV.imp (bindQ (m' := .rd) p.po) fun v H1 ⟨F1, s, sp1, e1, g1, q1, r1, p2⟩ => ?_⟩
    cases z : isB s with
    | none => rw [z] at p2; exact p2.elim
    | some k =>
      rw [z] at p2
      refine ⟨k, isB_v z r1.1, ?_⟩
      cases k with
      | true =>
        rw [if_pos rfl]
        exact ⟨F0, H0, F1, ρ, sp1, rl.go g1 q1, PO.v g1 p2⟩
      | false =>
        rw [if_neg Bool.false_ne_true]
        exact p2 _ F1 H1 g1 q1 (VM.of_dat (.bl false))
theorem pd_or (ha : PD .rd X as E a ta) (hb : PD m X as E (.BoolOp .Or (b :: rest) pos) tb) : PD m X as E (.BoolOp .Or (a :: b :: rest) pos) (dOr ta tb) :=
  PD.by (pe_or ha.pe hb.pe) fun σ H Q F0 H0 F ρ sp rl p => by
    refine ⟨F0, H0, F, ρ, sp, rl, PV.imp (bindQ (m' := .rd) p.po) fun v H1 ⟨F1, s, sp1, e1, g1, q1, r1, p2⟩ => ?_⟩
    cases z : isB s with
    | none => rw [z] at p2; exact p2.elim
    | some k =>
      rw [z] at p2
      refine ⟨k, isB_v z r1.1, ?_⟩
      cases k with
      | false =>
        rw [if_neg Bool.false_ne_true]
        exact ⟨F0, H0, F1, ρ, sp1, rl.go g1 q1, PO.v g1 p2⟩
      | true =>
        rw [if_pos rfl]
        exact p2 _ F1 H1 g1 q1 (VM.of_dat (.bl true))
theorem pd_not (ha : PD .rd X as E a ta) : PD m X as E (.UnaryOp .Not a pos) (dNot ta) :=
  PD.by (pe_not ha.pe) fun σ H Q F0 H0 F ρ sp rl p => by
    refine ⟨F0, H0, F, ρ, sp, rl, PV.imp (bindQ (m' := .rd) p.po) fun v H1 ⟨F1, s, sp1, e1, g1, q1, r1, p2⟩ => ?_⟩
    cases z : isB s with
    | none => rw [z] at p2; exact p2.elim
    | some k =>
      rw [z] at p2
      exact ⟨k, isB_v z r1.1, p2 _ F1 H1 g1 q1 (VM.of_dat (.bl _))⟩
theorem pd_if {c : Expr} (hc : PDt X as E c ua) (ha : PD m X as E a ta) (hb : PD m X as E b tb) : PD m X as E (.IfExp c a b pos) (dIf ua ta tb) :=
  PD.by (pe_ifExp hc.pt ha.pe hb.pe) fun σ H Q F0 H0 F ρ sp rl p => by
    refine ⟨F0, H0, F, ρ, sp, rl, PVt.imp (bindQt p.po) fun b H1 ⟨F1, sp1, e1, g1, q1, p2⟩ => ?_⟩
    cases b with
    | false =>
      rw [if_neg Bool.false_ne_true] at p2 ⊢
      exact ⟨F0, H0, F1, ρ, sp1, rl.go g1 q1, PO.v g1 p2⟩
    | true =>
      rw [if_pos rfl] at p2 ⊢
      exact ⟨F0, H0, F1, ρ, sp1, rl.go g1 q1, PO.v g1 p2⟩
theorem pd_neg (ha : PD .rd X as E a ta) : PD m X as E (.UnaryOp .USub a pos) (dNeg ta) :=
  PD.by (pe_un un_neg ha.pe) fun σ H Q F0 H0 F ρ sp rl p => by
    refine ⟨F0, H0, F, ρ, sp, rl, PV.imp (bindQ (m' := .rd) p.po) fun v H1 ⟨F1, s, sp1, e1, g1, q1, r1, p2⟩ => ?_⟩
    split at p2
    · obtain rfl := (Rd.of (d := .int _) rfl r1.1).int
      exact ⟨_, rfl, p2 _ F1 H1 g1 q1 (VM.of_dat (.int _))⟩
    · exact p2.elim
/-- a op b op' c -/
def dChain (g g' : D → D → Option Sl) (ta tb tc : DE) : DE := fun ρ sp => (ta ρ sp).bind fun x sp1 => (tb ρ sp1).bind fun y sp2 => (opt (un2 g x y) sp2).bind fun z sp3 => match isB z with
  | some true => (tc ρ sp3).bind fun w sp4 => opt (un2 g' y w) sp4
  | some false => .ok (.dat (.bool false)) sp3
  | none => .bad
theorem chain_go {r r' : R2} {g g' : D → D → Option Sl} (hg : OpD X.K r g) (hg' : OpD X.K r' g') {σ : L2.St} {H : Hp} {Q : VK} {F0 H0 F : Hp} {ρ : Env_} {sp : SpO} (rl : Rl X.K as F0 H0 F H sp ρ σ) (p : PV m X.K as X.mg E F H Q (dChain g g' ta tb tc ρ sp)) :
    tChain r r' (TD .rd X.K as X.mg E ta) (TD .rd X.K as X.mg E tb) (TD .rd X.K as X.mg E tc) σ H Q := by
  refine ⟨F0, H0, F, ρ, sp, rl, PV.imp (bindQ (m' := .rd) p.po) fun x H1 ⟨F1, s, sp1, e1, g1, q1, r1, p2⟩ => ?_⟩
  refine ⟨F0, H0, F1, ρ, sp1, rl.go g1 q1, PV.imp (bindQ (m' := .rd) (p2.go g1)) fun y H2 ⟨F2, s2, sp2, e2, g2, q2, r2, p3⟩ => ?_⟩
  cases z : un2 g s s2 with
  | none => rw [z] at p3; exact p3.elim
  | some w =>
    rw [z] at p3
    obtain ⟨dx, dy, d1, d2, hz⟩ := un2_some z
    refine hg as F2 H2 x y dx dy w _ g2.le (Rd.of d1 (r1.1.gr g2)) (Rd.of d2 r2.1) hz q2.ne fun w' F3 H3 g3 k3 vm => ?_
    have q3 := q2.keep k3
    have g13 := g1.trans (g2.trans g3)
    rw [opt_some, Out.bind_ok] at p3
    cases zb : isB w with
    | none => rw [zb] at p3; exact p3.elim
    | some k =>
      rw [zb] at p3
      refine ⟨k, isB_v zb vm.1, ?_⟩
      cases k with
      | false =>
        rw [if_neg Bool.false_ne_true]
        exact p3 _ F3 H3 g13 q3 (VM.of_dat (.bl false))
      | true =>
        rw [if_pos rfl]
        refine ⟨F0, H0, F3, ρ, sp2, rl.go g13 q3, PV.imp (bindQ (m' := .rd) (p3.go (g2.trans g3))) fun u H4 ⟨F4, s4, sp4, e4, g4, q4, r4, p4⟩ => ?_⟩
        cases z4 : un2 g' s2 s4 with
        | none => rw [z4] at p4; exact p4.elim
        | some w4 =>
          rw [z4] at p4
          obtain ⟨ex, ey, f1, f2, hz4⟩ := un2_some z4
          refine hg' as F4 H4 y u ex ey w4 Q g4.le (Rd.of f1 ((r2.1.gr g3).gr g4)) (Rd.of f2 r4.1) hz4 q4.ne fun w5 F5 H5 g5 k5 vm5 => ?_
          exact p4 w5 F5 H5 (g13.trans (g4.trans g5)) (q4.keep k5) (vm5.any.back (g13.trans g4).tr)
theorem pd_chain {op op' : CmpOp} {r r' : R2} {g g' : D → D → Option Sl} (ho : OpR X (compareOp op) r) (hg : OpD X.K r g) (ho' : OpR X (compareOp op') r') (hg' : OpD X.K r' g') (ha : PD .rd X as E a ta) (hb : PD .rd X as E b tb) (hc : PD .rd X as E c tc)
    (hm : lastMarks [op, op'] [b, c] = false := by with_unfolding_all rfl) : PD m X as E (.Compare a [op, op'] [b, c] pos) (dChain g g' ta tb tc) :=
  PD.by (pe_chain ho ho' ha.pe hb.pe hc.pe hm) fun σ H Q F0 H0 F ρ sp rl p => chain_go hg hg' rl p
theorem pdt_chain {op op' : CmpOp} {r r' : R2} {g g' : D → D → Option Sl} (ho : OpR X (compareOp op) r) (hg : OpD X.K r g) (ho' : OpR X (compareOp op') r') (hg' : OpD X.K r' g') (ha : PD .rd X as E a ta) (hb : PD .rd X as E b tb) (hc : PD .rd X as E c tc)
    (hm : lastMarks [op, op'] [b, c] = false := by with_unfolding_all rfl) : PDt X as E (.Compare a [op, op'] [b, c] pos) (dTb (dChain g g' ta tb tc)) :=
  PDt.by (pt_chain ho ho' ha.pe hb.pe hc.pe hm) fun σ H Q F0 H0 F ρ sp rl p => by
    refine chain_go (m := .rd) (Q := fun x H' => ∃ k, x = .bl k ∧ Q k H') hg hg' rl (PV.imp (bindQ (m' := .rd) p.po) fun v H1 ⟨F1, s, sp1, e1, g1, q1, r1, p2⟩ => ?_)
    cases z : isB s with
    | none => rw [z] at p2; exact p2.elim
    | some k =>
      rw [z] at p2
      exact ⟨k, isB_v z r1.1, p2 F1 H1 g1 q1⟩
end
end Dn
namespace Dn
open PySem PySem.Spec PyProof.Rows L2

/-! ### argument lists -/
def dNil : DA := fun _ sp => .ok [] sp
def dCons (te : DE) (ta : DA) : DA := fun ρ sp => (te ρ sp).bind fun s sp1 => (ta ρ sp1).bind fun ss sp2 => .ok (s :: ss) sp2
def itemsD : Sl → Option (List D)
  | .dat (.list xs) => some xs
  | .dat (.tuple xs) => some xs
  | .ol xs => some xs
  | _ => none
def dStar (te : DE) (ta : DA) : DA := fun ρ sp => (te ρ sp).bind fun s sp1 => match itemsD s with
  | some ds => (ta ρ sp1).bind fun ss sp2 => .ok (ds.map Sl.dat ++ ss) sp2
  | none => .bad
section
variable {K : PySem.W.Frag} {as : Option Addr} {mg : Str → Option Value} {E : XK} {F H F' H' H0 H1 : Hp} {m : Md} {s : Sl} {v : V}
theorem VR.there (h : VR K as F H s v) (o : s.own = true) {a : Addr} (e : v = .ref a) : H a ≠ none := by
  cases s with
  | ol xs => obtain ⟨b, vs, e2, n, f, hh, r⟩ := h; subst e2; cases e; rw [hh]; exact fun z => nomatch z
  | od xs => obtain ⟨b, vs, e2, n, f, hh, r⟩ := h; subst e2; cases e; rw [hh]; exact fun z => nomatch z
  | os xs => obtain ⟨b, S, k, e2, n, f, hh, r⟩ := h; subst e2; cases e; rw [hh]; exact fun z => nomatch z
  | _ => cases o
theorem Side.nil : Side m K as H0 F H [] [] := ⟨.nil, fun _ i j s t a e => by simp at e⟩
theorem pairAt {α β : Type} {P : α → β → Prop} : ∀ {xs : List α} {ys : List β} {i : Nat} {x : α}, Paired P xs ys → xs[i]? = some x → ∃ y, ys[i]? = some y ∧ P x y
  | _, _, _, _, .nil, e => by simp at e
  | _, _, 0, _, .cons r _, e => by simp at e; subst e; exact ⟨_, rfl, r⟩
  | _, _, i + 1, x, .cons _ t, e => by
    obtain ⟨y, h1, h2⟩ := pairAt (i := i) (x := x) t (by simpa using e)
    exact ⟨y, by simpa using h1, h2⟩
theorem Side.cons {F2 H2 : Hp} {ss : List Sl} {vs : List V} (h : VM m K as H0 F H1 s v) (g : Gr as F H1 F2 H2) (k : ∀ a, H1 a = none → H0 a = none) (t : Side m K as H1 F2 H2 ss vs) : Side m K as H0 F2 H2 (s :: ss) (v :: vs) := by
  refine ⟨.cons (h.gr g) (t.back k).1, fun n i j s1 s2 a e1 e2 o1 o2 v1 v2 => ?_⟩
  have far : ∀ (j : Nat) (s2 : Sl), s.own = true → v = .ref a → ss[j]? = some s2 → s2.own = true → vs[j]? = some (.ref a) → False := fun j s2 o1 v1 e2 o2 v2 => by
    obtain ⟨y, y1, y2⟩ := pairAt t.1 e2
    rw [v2] at y1
    cases y1
    exact h.1.there o1 v1 (y2.2.1 n o2 a rfl)
  cases i with
  | zero =>
    cases j with
    | zero => rfl
    | succ j =>
      rw [List.getElem?_cons_zero] at e1 v1
      cases e1
      exact (far j s2 o1 (Option.some.inj v1) (by simpa using e2) o2 (by simpa using v2)).elim
  | succ i =>
    cases j with
    | zero =>
      rw [List.getElem?_cons_zero] at e2 v2
      cases e2
      exact (far i s1 o2 (Option.some.inj v2) (by simpa using e1) o1 (by simpa using v1)).elim
    | succ j => rw [t.2 n i j s1 s2 a (by simpa using e1) (by simpa using e2) o1 o2 (by simpa using v1) (by simpa using v2)]
theorem itemsD_v {ds : List D} (l : Le F H) (e : itemsD s = some ds) (h : VR K as F H s v) : ∃ p xs, v = .ref p ∧ (SqT K H p xs ∨ SqL K H p xs) ∧ RpA K F xs ds := by
  unfold itemsD at e
  split at e
  · cases e
    obtain ⟨p, xs, e, h1, r⟩ := (Rd.of (d := .list _) rfl h).list l
    exact ⟨p, xs, e, .inr h1, r⟩
  · cases e
    obtain ⟨p, xs, e, h1, r⟩ := (Rd.of (d := .tuple _) rfl h).tup l
    exact ⟨p, xs, e, .inl h1, r⟩
  · cases e
    obtain ⟨p, xs, e, h1, r⟩ := (Rd.of (d := .list _) rfl h).list l
    exact ⟨p, xs, e, .inr h1, r⟩
  · cases e
theorem Side.dats : ∀ {ds : List D} {xs : List V}, RpA K F xs ds → Paired (VM m K as H0 F H) (ds.map Sl.dat) xs
  | _, _, .nil => .nil
  | _, _, .cons r t => .cons (VM.of_dat r) (Side.dats t)
theorem pairApp {α β : Type} {P : α → β → Prop} : ∀ {xs zs : List α} {ys ws : List β}, Paired P xs ys → Paired P zs ws → Paired P (xs ++ zs) (ys ++ ws)
  | _, _, _, _, .nil, s => s
  | _, _, _, _, .cons r t, s => .cons r (pairApp t s)
theorem Side.star {F2 H2 : Hp} {ss : List Sl} {vs xs : List V} {ds : List D} (r : RpA K F xs ds) (g : Gr as F H1 F2 H2) (k : ∀ a, H1 a = none → H0 a = none) (t : Side m K as H1 F2 H2 ss vs) : Side m K as H0 F2 H2 (ds.map Sl.dat ++ ss) (xs ++ vs) := by
  refine ⟨pairApp (Side.dats (r.mono g.sub)) (t.back k).1, fun n i j s1 s2 a e1 e2 o1 o2 v1 v2 => ?_⟩
  have hl := r.length
  have up : ∀ (i : Nat) (s1 : Sl), (ds.map Sl.dat ++ ss)[i]? = some s1 → s1.own = true → xs.length ≤ i := fun i s1 e o => by
    rcases Nat.lt_or_ge i xs.length with h | h
    · rw [List.getElem?_append_left (by rw [List.length_map]; omega), List.getElem?_map] at e
      cases q : ds[i]? with
      | none => rw [q] at e; cases e
      | some d => rw [q] at e; cases e; cases o
    · exact h
  have h1 := up i s1 e1 o1
  have h2 := up j s2 e2 o2
  rw [List.getElem?_append_right (by rw [List.length_map]; omega)] at e1 e2
  rw [List.getElem?_append_right (by omega)] at v1 v2
  rw [List.length_map, ← hl] at e1 e2
  have := t.2 n _ _ s1 s2 a e1 e2 o1 o2 v1 v2
  omega
end
section
variable {X : Cx} {as : Option Addr} {E : XK} {m : Md} {e : Expr} {es : List Expr} {te : DE} {ta : DA} {pos : Pos}
theorem pda_nil : PDa m X as E [] dNil := PDa.by pa_nil fun σ H Q F0 H0 F ρ sp rl p => p [] F H (Gr.refl rl.le) rl.sp Side.nil
theorem pda_cons (ha : PD m X as E e te) (hr : PDa m X as E es ta) (hs : starEach (e :: es) X.env = (false, eval e X.env) :: starEach es X.env := by rfl) : PDa m X as E (e :: es) (dCons te ta) :=
  PDa.by (pa_cons ha.pe hr.pa hs) fun σ H Q F0 H0 F ρ sp rl p => by
    refine ⟨F0, H0, F, ρ, sp, rl, PV.imp (bindQ (m' := m) p.po) fun v H1 ⟨F1, s, sp1, e1, g1, q1, r1, p2⟩ => ?_⟩
    refine ⟨F0, H0, F1, ρ, sp1, rl.go g1 q1, PVa.imp (bindQa (m' := m) (p2.go g1)) fun vs H2 ⟨F2, ss, sp2, e2, g2, q2, r2, p3⟩ => ?_⟩
    exact p3 (v :: vs) F2 H2 (g1.trans g2) q2 (Side.cons r1 g2 g1.tr r2)
theorem pda_star (ha : PD .rd X as E e te) (hr : PDa m X as E es ta) : PDa m X as E (.Starred e pos :: es) (dStar te ta) :=
  PDa.by (StX.pa_star ha.pe hr.pa) fun σ H Q F0 H0 F ρ sp rl p => by
    refine ⟨F0, H0, F, ρ, sp, rl, PV.imp (bindQ (m' := .rd) p.po) fun v H1 ⟨F1, s, sp1, e1, g1, q1, r1, p2⟩ => ?_⟩
    cases z : itemsD s with
    | none => rw [z] at p2; exact p2.elim
    | some ds =>
      rw [z] at p2
      obtain ⟨q, xs, e3, h3, r3⟩ := itemsD_v g1.le z r1.1
      refine ⟨q, xs, e3, h3, F0, H0, F1, ρ, sp1, rl.go g1 q1, PVa.imp (bindQa (m' := m) (p2.go g1)) fun vs H2 ⟨F2, ss, sp2, e2, g2, q2, r2, p3⟩ => ?_⟩
      exact p3 (xs ++ vs) F2 H2 (g1.trans g2) q2 (Side.star r3 g2 g1.tr r2)
end

/-! ### what was made becomes data -/
noncomputable def fz (P : Addr → Prop) (F H : Hp) : Hp := fun b => open Classical in if P b then H b else F b
section
variable {K : PySem.W.Frag} {as : Option Addr} {mg : Str → Option Value} {E : XK} {F H F' H' H0 F0 H1 : Hp} {m : Md} {s : Sl} {v : V} {P : Addr → Prop}
theorem fz_at {b : Addr} (h : P b) : fz P F H b = H b := by unfold fz; rw [if_pos h]
theorem fz_not {b : Addr} (h : ¬ P b) : fz P F H b = F b := by unfold fz; rw [if_neg h]
theorem fz_sub (l : Le F H) : Le F (fz P F H) := fun a o e => by
  by_cases h : P a
  · rw [fz_at h]; exact l a o e
  · rw [fz_not h]; exact e
theorem fz_le (l : Le F H) : Le (fz P F H) H := fun a o e => by
  by_cases h : P a
  · rw [fz_at h] at e; exact e
  · rw [fz_not h] at e; exact l a o e
theorem Gr.fz (g : Gr as F0 H0 F H) (hP : ∀ a, P a → H0 a = none) : Gr as F0 H0 (fz P F H) H where
  keep := g.keep
  tr := g.tr
  sub := g.sub.trans (fz_sub g.le)
  le := fz_le g.le
  new := fun a o e => by
    by_cases h : P a
    · exact .inr (hP a h)
    · rw [fz_not h] at e; exact g.new a o e
/-- an own thing at an address of P is data now -/
theorem VR.fz {d : D} (l : Le F H) (h : VR K as F H s v) (e : s.d? = some d) (hP : s.own = true → ∀ a, v = .ref a → P a) : Rp K (fz P F H) v d := by
  cases s <;> simp [Sl.d?] at e
  · subst e
    exact Rp.mono (fz_sub l) h
  · subst e
    obtain ⟨a, vs, e, n, f, hh, r⟩ := h
    subst e
    exact .lst (.inl (.inl (by rw [fz_at (hP rfl a rfl)]; exact hh))) (r.mono (fz_sub l))
  · subst e
    obtain ⟨a, vs, e, n, f, hh, r⟩ := h
    subst e
    exact .dic (by rw [fz_at (hP rfl a rfl)]; exact hh) (r.mono (fz_sub l))
def toDs : List Sl → Option (List D)
  | [] => some []
  | s :: ss => s.d?.bind fun d => (toDs ss).bind fun ds => some (d :: ds)
@[simp] theorem toDs_nil : toDs [] = some [] := rfl
theorem RpA.fz : ∀ {ss : List Sl} {vs : List V} {ds : List D}, Le F H → Paired (fun s v => VR K as F H s v ∧ (s.own = true → ∀ a, v = .ref a → P a)) ss vs → toDs ss = some ds → RpA K (fz P F H) vs ds
  | _, _, _, _, .nil, e => by cases e; exact .nil
  | _, _, _, l, .cons r t, e => by
    unfold toDs at e
    obtain ⟨d, e1, e⟩ := Option.bind_eq_some_iff.mp e
    obtain ⟨ds, e2, e⟩ := Option.bind_eq_some_iff.mp e
    cases e
    exact .cons (VR.fz l r.1 e1 r.2) (RpA.fz l t e2)
/-- the addresses of what was made -/
def Made (ss : List Sl) (vs : List V) (a : Addr) : Prop := ∃ (i : Nat) (s : Sl), ss[i]? = some s ∧ s.own = true ∧ vs[i]? = some (.ref a)
theorem made_of {m : Md} (hm : m ≠ .rd) : ∀ {ss : List Sl} {vs : List V} {a : Addr}, Paired (VM m K as H0 F H) ss vs → Made ss vs a → H0 a = none
  | ss, vs, a, t, ⟨i, s, e, o, ev⟩ => by
    obtain ⟨y, y1, y2⟩ := pairAt t e
    rw [ev] at y1
    cases y1
    exact y2.2.1 hm o a rfl
theorem pairIx {α β : Type} {P : α → β → Prop} : ∀ {xs : List α} {ys : List β}, Paired P xs ys → Paired (fun x y => P x y ∧ ∃ i : Nat, xs[i]? = some x ∧ ys[i]? = some y) xs ys
  | _, _, .nil => .nil
  | x :: xs, y :: ys, .cons r t => .cons ⟨r, 0, rfl, rfl⟩ (Paired.mapP (pairIx t) fun a b ⟨h, i, e1, e2⟩ => ⟨h, i + 1, by simpa using e1, by simpa using e2⟩)
/-- a row of values becomes a row of data -/
theorem side_fz {m : Md} (hm : m ≠ .rd) {ss : List Sl} {vs : List V} {ds : List D} (g : Gr as F0 H0 F H) (h : Side m K as H0 F H ss vs) (e : toDs ss = some ds) : ∃ F', Gr as F0 H0 F' H ∧ Le F F' ∧ RpA K F' vs ds := by
  refine ⟨fz (Made ss vs) F H, g.fz fun a q => made_of hm h.1 q, fz_sub g.le, ?_⟩
  refine RpA.fz g.le (Paired.mapP (pairIx h.1) fun s v ⟨q, i, e1, e2⟩ => ⟨q.1, fun o a ev => ⟨i, s, e1, o, by rw [e2, ev]⟩⟩) e
end
/-! ### tuples, lists -/
def dTup (ta : DA) : DE := fun ρ sp => (ta ρ sp).bind fun ss sp1 => match toDs ss with
  | some ds => if ds.length ≤ sizeLine then .ok (.dat (.tuple ds)) sp1 else .bad
  | none => .bad
def dLst (ta : DA) : DE := fun ρ sp => (ta ρ sp).bind fun ss sp1 => match toDs ss with
  | some ds => if ds.length ≤ sizeLine then .ok (.ol ds) sp1 else .bad
  | none => .bad
section
variable {X : Cx} {as : Option Addr} {E : XK} {m : Md} {e : Expr} {es : List Expr} {te : DE} {ta : DA} {pos : Pos}
theorem pd_tup {k : Nat} (ha : PDa .vl X as E es ta) : PD m X as E (.Tuple es k pos) (dTup ta) :=
  PD.by (pe_tup ha.pa) fun σ H Q F0 H0 F ρ sp rl p => by
    refine ⟨F0, H0, F, ρ, sp, rl, PVa.imp (bindQa (m' := .vl) p.po) fun vs H1 ⟨F1, ss, sp1, e1, g1, q1, r1, p2⟩ => ?_⟩
    cases z : toDs ss with
    | none => rw [z] at p2; exact p2.elim
    | some ds =>
      rw [z] at p2
      dsimp only at p2
      split at p2
      · rename_i hz
        obtain ⟨F2, g2, l2, r2⟩ := side_fz (m := .vl) (by intro e; cases e) g1 r1 z
        refine ⟨by rw [r2.length]; exact hz, fun q hq => ?_⟩
        have g3 := Gr.laid (as := as) (o := .tup vs) g2.le hq
        exact p2 _ _ _ (g2.trans g3) (q1.keep (le_upd hq)) (VM.of_dat (.tup (.inl (.inl upd_same)) (r2.mono g3.sub)))
      · exact p2.elim
theorem pd_lst (ha : PDa .vl X as E es ta) : PD m X as E (.List es pos) (dLst ta) :=
  PD.by (pe_lst ha.pa) fun σ H Q F0 H0 F ρ sp rl p => by
    refine ⟨F0, H0, F, ρ, sp, rl, PVa.imp (bindQa (m' := .vl) p.po) fun vs H1 ⟨F1, ss, sp1, e1, g1, q1, r1, p2⟩ => ?_⟩
    cases z : toDs ss with
    | none => rw [z] at p2; exact p2.elim
    | some ds =>
      rw [z] at p2
      dsimp only at p2
      split at p2
      · rename_i hz
        obtain ⟨F2, g2, l2, r2⟩ := side_fz (m := .vl) (by intro e; cases e) g1 r1 z
        refine ⟨by rw [r2.length]; exact hz, fun q hq => ?_⟩
        have g3 := Gr.laid1 (as := as) (o := .lst vs) g2.le hq
        refine p2 _ _ _ (g2.trans g3) (q1.keep (le_upd hq)) ⟨⟨q, vs, rfl, fun e => q1.ne q e hq, g2.le.none hq, upd_same, r2⟩, fun _ _ a e => ?_, fun _ e => nomatch e⟩
        cases e
        exact g1.tr q hq
      · exact p2.elim
end
/-! ### calls of defs -/
def toAr : List Sl → Option (List Sl)
  | [] => some []
  | .spr :: ss => (toAr ss).bind fun r => some (.spr :: r)
  | s :: ss => s.d?.bind fun d => (toAr ss).bind fun r => some (.dat d :: r)
def ArgR (K : PySem.W.Frag) (as : Option Addr) (F : Hp) : Sl → V → Prop
  | .dat d, v => Rp K F v d
  | .spr, v => ∃ a, v = .ref a ∧ as = some a
  | _, _ => False
/-- a def's promise -/
def spD (K : PySem.W.Frag) (mg : Str → Option Value) (n : Nat) (f : Mir) : Sp := fun vs H Q E => ∃ as F sp args, args.length = n ∧ Le F H ∧ SpAt as sp H ∧ (∀ a, as = some a → F a = none) ∧ Paired (ArgR K as F) args vs ∧
  PV .vl K as mg E F H Q (f args sp)
def dCall (f : Mir) (n : Nat) (ta : DA) : DE := fun ρ sp => (ta ρ sp).bind fun ss sp1 => match toAr ss with
  | some r => if r.length = n then f r sp1 else .bad
  | none => .bad
section
variable {K : PySem.W.Frag} {as : Option Addr} {mg : Str → Option Value} {E : XK} {F H F' H' H0 F0 H1 : Hp} {m : Md} {s : Sl} {v : V} {P : Addr → Prop}
theorem toAr_cons {s : Sl} {ss r : List Sl} (e : toAr (s :: ss) = some r) : (s = .spr ∧ ∃ r', toAr ss = some r' ∧ r = .spr :: r') ∨ ∃ d r', s.d? = some d ∧ toAr ss = some r' ∧ r = .dat d :: r' := by
  cases s <;> first
    | (obtain ⟨r', e1, e2⟩ := Option.bind_eq_some_iff.mp e
       cases e2
       exact .inl ⟨rfl, r', e1, rfl⟩)
    | (obtain ⟨d, e0, e⟩ := Option.bind_eq_some_iff.mp e
       obtain ⟨r', e1, e2⟩ := Option.bind_eq_some_iff.mp e
       cases e2
       exact .inr ⟨d, r', e0, e1, rfl⟩)
theorem ArgR.fz : ∀ {ss : List Sl} {vs : List V} {r : List Sl}, Le F H → Paired (fun s v => VR K as F H s v ∧ (s.own = true → ∀ a, v = .ref a → P a)) ss vs → toAr ss = some r → Paired (ArgR K as (fz P F H)) r vs
  | _, _, _, _, .nil, e => by cases e; exact .nil
  | _, _, _, l, .cons q t, e => by
    rcases toAr_cons e with ⟨rfl, r', e1, rfl⟩ | ⟨d, r', e0, e1, rfl⟩
    · exact .cons q.1 (ArgR.fz l t e1)
    · exact .cons (VR.fz l q.1 e0 q.2) (ArgR.fz l t e1)
theorem args_fz {m : Md} (hm : m ≠ .rd) {ss r : List Sl} {vs : List V} (g : Gr as F0 H0 F H) (h : Paired (VM m K as H0 F H) ss vs) (e : toAr ss = some r) : ∃ F', Gr as F0 H0 F' H ∧ Le F F' ∧ (∀ a, F' a ≠ none → F a ≠ none ∨ Made ss vs a) ∧ Paired (ArgR K as F') r vs := by
  refine ⟨Dn.fz (Made ss vs) F H, g.fz fun a q => made_of hm h q, fz_sub g.le, fun a e => ?_, ?_⟩
  · by_cases q : Made ss vs a
    · exact .inr q
    · rw [fz_not q] at e; exact .inl e
  · refine ArgR.fz g.le (Paired.mapP (pairIx h) fun s v ⟨q, i, e1, e2⟩ => ⟨q.1, fun o a ev => ⟨i, s, e1, o, by rw [e2, ev]⟩⟩) e
theorem made_as (h : Paired (fun s v => VR K as F H s v) l1 l2) {a : Addr} (q : Made l1 l2 a) : as ≠ some a := by
  obtain ⟨i, s, e, o, ev⟩ := q
  obtain ⟨y, y1, y2⟩ := pairAt h e
  rw [ev] at y1
  cases y1
  cases s with
  | ol xs => obtain ⟨b, vs, e2, n, f, hh, r⟩ := y2; cases e2; exact n
  | od xs => obtain ⟨b, vs, e2, n, f, hh, r⟩ := y2; cases e2; exact n
  | os xs => obtain ⟨b, S, k, e2, n, f, hh, r⟩ := y2; cases e2; exact n
  | _ => cases o
end
section
variable {X : Cx} {as : Option Addr} {E : XK} {m : Md} {e : Expr} {es : List Expr} {te : DE} {ta : DA} {p pos : Pos} {CX : CXT} {k n : Nat} {f : Addr} {fd : FuncData} {ps : List Str} {mir : Mir} {x : Str}
theorem call_go {σ : L2.St} {H : Hp} {Q : VK} {F0 H0 F : Hp} {ρ : Env_} {sp : SpO} (rl : Rl X.K as F0 H0 F H sp ρ σ) (p : PV m X.K as X.mg E F H Q (dCall mir n ta ρ sp)) :
    TDa .ag X.K as X.mg E ta σ H fun vs H1 => spD X.K X.mg n mir (vs ++ []) H1 Q E := by
  refine ⟨F0, H0, F, ρ, sp, rl, PVa.imp (bindQa (m' := .ag) p.po) fun vs H1 ⟨F1, ss, sp1, e1, g1, q1, r1, p2⟩ => ?_⟩
  rw [List.append_nil]
  cases z : toAr ss with
  | none => rw [z] at p2; exact p2.elim
  | some r =>
    rw [z] at p2
    dsimp only at p2
    split at p2
    · rename_i hn
      obtain ⟨F2, g2, l2, hm2, r2⟩ := args_fz (m := .ag) (by intro e; cases e) g1 r1.1 z
      refine ⟨as, F2, sp1, r, hn, g2.le, q1, fun a ea => ?_, r2, (PO.v g2 p2).any⟩
      cases q : F2 a with
      | none => rfl
      | some o =>
        rcases hm2 a (by rw [q]; exact fun e => nomatch e) with h | h
        · exact absurd ((rl.go g1 q1).nas a ea) h
        · exact absurd ea (made_as (Paired.mapP r1.1 fun _ _ z => z.1) h)
    · exact p2.elim
theorem pd_call (Fn : FnOk X.prog X.w X.K X.mg X.base CX k f fd ps (spD X.K X.mg n mir)) (hr : Room k X.A) (hg : Gl X x) (hm : X.mg x = some (.ref f)) (hk : PySem.W.keepIn X.K (.ref f) = true) (hb : Binds X.K fd ps []) (hx : Passes CX X E)
    (ha : PDa .ag X as E (e :: es) ta) (hdb : (x == ("__debug__" : Str)) = false := by decide) (he : starEach (e :: es) X.env = (false, eval e X.env) :: starEach es X.env := by rfl) (hpl : (backTo pos (starEach es X.env)).any (·.1) = false := by rfl) :
    PD m X as E (.Call (.Name x p) (e :: es) [] pos) (dCall mir n ta) :=
  PD.by (pe_call Fn hr hg hm hk hb .nil hx ha.pa hdb he hpl) fun σ H Q F0 H0 F ρ sp rl p => call_go rl p
theorem pd_call0 (Fn : FnOk X.prog X.w X.K X.mg X.base CX k f fd ps (spD X.K X.mg n mir)) (hr : Room k X.A) (hg : Gl X x) (hm : X.mg x = some (.ref f)) (hk : PySem.W.keepIn X.K (.ref f) = true) (hb : Binds X.K fd ps []) (hx : Passes CX X E)
    (hdb : (x == ("__debug__" : Str)) = false := by decide) : PD m X as E (.Call (.Name x p) [] [] pos) (dCall mir n dNil) :=
  PD.by (pe_call0 Fn hr hg hm hk hb .nil hx hdb) fun σ H Q F0 H0 F ρ sp rl p => by
    have h := call_go rl p
    obtain ⟨F0', H0', F', ρ', sp', rl', p'⟩ := h
    exact p' [] F' H (Gr.refl rl'.le) rl'.sp Side.nil
end
end Dn
namespace Dn
open PySem PySem.Spec PyProof.Rows L2

/-! ### defs that may ask for a value's text: no such question is under way around the call -/
structure FnG (P : Program) (w : World) (K : PySem.W.Frag) (mg : Str → Option Value) (base : Heap) (k : Nat) (f : Addr) (fd : FuncData) (ps : List Str) (sp : Sp) : Prop where
  len : ∀ vs H Q E, sp vs H Q E → vs.length = ps.length
  run : ∀ (A : Around) (outer : List Env) (s : Shared) (H : Hp) (args : Args) (us : List Value) (vs : List V) (Q : VK) (E : XK),
    Room k A → A.guards = some [] → Env0 P w K mg base A outer s H → BindsTo s fd args (ps.zip us) → Vals vs us → sp vs H Q E →
    codeAny (model P w) A (.call (.ref f) args) (CR (L2.CX P w) outer P w H s Q E) s
theorem FnG.mono {P : Program} {w : World} {K : PySem.W.Frag} {mg : Str → Option Value} {base : Heap} {j k : Nat} {f : Addr} {fd : FuncData} {ps : List Str} {sp : Sp} (F : FnG P w K mg base j f fd ps sp) (h : j ≤ k) : FnG P w K mg base k f fd ps sp where
  len := F.len
  run := fun A outer s H args us vs Q E hr => F.run A outer s H args us vs Q E (hr.mono h)
/-- the context of a body -/
abbrev cxG (P : Program) (w : World) (K : PySem.W.Frag) (mg : Str → Option Value) (base : Heap) (N : List Str) (qual : Str) (scope : Scope) (f : Addr) (cd : Value) (A : Around) (outer : List Env) (s : Shared) (H : Hp) (E : XK) : Cx :=
  cxOf (L2.CX P w) P w K mg base N qual scope f cd A outer s H E
section
variable {P : Program} {w : World} {K : PySem.W.Frag} {mg : Str → Option Value} {base : Heap} {x qual : Str} {params : Arguments} {body : List Stmt} {scope : Scope} {dvs : List V} {kws : List (Str × V)} {f : Addr} {fd : FuncData}
/-- a def by its body -/
theorem fnG_of {N ps : List Str} {k : Nat} {sp : Sp} (Fd : FunD K x qual params body scope dvs kws f fd) (S : FnScope N ps scope) (hlen : ∀ vs H Q E, sp vs H Q E → vs.length = ps.length)
    (hbody : ∀ (cdv : Value) (A : Around) (outer : List Env) (s : Shared) (H : Hp) (vs : List V) (Q : VK) (E : XK), Room k (A.deeper (envOfC qual scope s.heap.objs.size f cdv)) → A.guards = some [] → sp vs H Q E →
      ∃ t, PSs (cxG P w K mg base N qual scope f cdv A outer s H E) body t ∧ t { nx := fun _ H' => Q .non H', rt := Q } (start N vs) H) :
    FnG P w K mg base (k + 1) f fd ps sp := by
  obtain ⟨oc, od, dV, kV, doc, pm, an, cdv, ct, osl, rfl, lk, hcd, _, _⟩ := Fd.ex
  refine ⟨hlen, ?_⟩
  intro A outer s H args us vs Q E room hgd e0 bt rv hsp
  have nvs := hlen vs H Q E hsp
  have inK : K.In s.heap := by
    refine e0.mod.kin.keeps ?_
    intro b o e
    exact (e0.bs b o e).1
  have noLim : s.heap.NoLimit := by
    refine e0.mod.nolimit.keeps ?_
    intro b o e
    exact (e0.bs b o e).1
  have kinds : ∀ y ∈ ps.zip us, scope.names.lookup y.1 = some .local ∨ (scope.names.lookup y.1 = some .cell ∧ ((cellsFrom (s.heap.objs.size + 1) scope.names []).lookup y.1).isSome = true) := by
    rintro ⟨n, v⟩ hy
    cases S.par n (List.of_mem_zip hy).1 with
    | inl q => exact Or.inl q
    | inr q => exact Or.inr ⟨q, PySem.W.cellsFrom_some _ _ _ (Or.inl q)⟩
  refine codeAny_call_function room.depth (inK _ _ lk) rfl S.co S.gen rfl (PySem.W.codeRec_of inK hcd) (bt _ _ _ _ ?_)
  refine wpAny_newFunctionEnv_cells S.kind kinds ?_
  intro env he s1 ic
  subst he
  refine ⟨noLim.keeps ic.toInCall.keep, codeAny_func ?_⟩
  obtain ⟨t, ht, hq⟩ := hbody cdv A outer s H vs Q E (room.deeper _) hgd hsp
  have I0 : Inv (cxG P w K mg base N qual scope f cdv A outer s H E) [] (start N vs) H s1 := inv_start S room.hd e0 nvs rv ic
  refine wpAny_mono (ht.run [] s1 (start N vs) H _ I0 hq) ?_ (fun e s' hs => hs)
  intro fl s' hs
  cases fl with
  | ret u =>
    obtain ⟨v, σ', H', J, r', q⟩ := hs
    exact ⟨v, H', J.os, J.bare, J.base, J.hok, r', q⟩
  | next =>
    obtain ⟨σ', H', J, q⟩ := hs
    exact ⟨V.non, H', J.os, J.bare, J.base, J.hok, rfl, q⟩
  | brk =>
    obtain ⟨_, _, _, q⟩ := hs
    exact q.elim
  | cont =>
    obtain ⟨_, _, _, q⟩ := hs
    exact q.elim
end
section
variable {X : Cx} {as : Option Addr} {E : XK} {m : Md} {e : Expr} {es : List Expr} {te : DE} {ta tk : DA} {p pos kpos : Pos} {k n : Nat} {f : Addr} {fd : FuncData} {ps : List Str} {mir : Mir} {x : Str} {sp : Sp} {t t2 : TA} {kws : List Keyword}
/-- the callee's end, in the caller's state -/
theorem backG {pins : List (Addr × Obj)} {σ : L2.St} {H : Hp} {s : Shared} {Q : VK} {r : Result} {s' : Shared} (hx : Passes (L2.CX X.prog X.w) X E) (I : Inv X pins σ H s) (hq : CR (L2.CX X.prog X.w) X.stack X.prog X.w H s Q E r s') :
    match r with
    | .ok (.ret u) => EP X pins σ Q u s'
    | .ok _ => False
    | .error er => X.xe er s' := by
  cases r with
  | error er => exact hx pins σ H s er s' I hq
  | ok fl => cases fl <;> first | exact I.after hq | exact hq
theorem runG {pins : List (Addr × Obj)} {σ : L2.St} {H : Hp} {s : Shared} {Q : VK} {us : List Value} {vs : List V} (Fn : FnG X.prog X.w X.K X.mg X.base k f fd ps sp) (hr : Room k X.A) (hgd : X.A.guards = some []) (hb : Binds X.K fd ps []) (hx : Passes (L2.CX X.prog X.w) X E)
    (I : Inv X pins σ H s) (r : Vals vs us) (h : sp vs H Q E) : wpAny (model X.prog X.w) X.A (call (.ref f) us) (EP X pins σ Q) X.xe s := by
  have hl : us.length = ps.length := r.length.symm.trans (Fn.len _ _ _ _ h)
  have b := hb s us I.kIn (by simpa using hl)
  rw [List.append_nil] at b
  refine wpAny_call (codeAny_mono (Fn.run X.A X.stack s H _ us vs Q E hr hgd I.env0 b r h) ?_)
  intro r s' hq
  have z := backG hx I hq
  cases r with
  | error er => exact z
  | ok fl => cases fl <;> first | exact z | exact z.elim
theorem pe_callG (Fn : FnG X.prog X.w X.K X.mg X.base k f fd ps sp) (hr : Room k X.A) (hgd : X.A.guards = some []) (hg : Gl X x) (hm : X.mg x = some (.ref f)) (hk : PySem.W.keepIn X.K (.ref f) = true) (hb : Binds X.K fd ps []) (hx : Passes (L2.CX X.prog X.w) X E)
    (ha : PA X (e :: es) t) (hdb : (x == ("__debug__" : Str)) = false) (he : starEach (e :: es) X.env = (false, eval e X.env) :: starEach es X.env) (hpl : (backTo pos (starEach es X.env)).any (·.1) = false) :
    PE X (.Call (.Name x p) (e :: es) [] pos) (fun σ H Q => t σ H fun vs H1 => sp vs H1 Q E) := by
  constructor
  intro pins s σ H Q I h
  refine wpAny_Call_Name_kw (ld_glob I hg hm ?_ hdb)
  refine PySem.W.callWith_K (h₀ := X.base) I.ok.mod.kin hk (thn (ha.run pos pins s σ H _ I h) ?_) he hpl
  rintro us s1 ⟨vs, H1, I1, r, q⟩
  exact ⟨I1.kIn, runG Fn hr hgd hb hx I1 r q⟩
theorem pe_call0G (Fn : FnG X.prog X.w X.K X.mg X.base k f fd ps sp) (hr : Room k X.A) (hgd : X.A.guards = some []) (hg : Gl X x) (hm : X.mg x = some (.ref f)) (hk : PySem.W.keepIn X.K (.ref f) = true) (hb : Binds X.K fd ps []) (hx : Passes (L2.CX X.prog X.w) X E)
    (hdb : (x == ("__debug__" : Str)) = false) : PE X (.Call (.Name x p) [] [] pos) (fun σ H Q => sp [] H Q E) := by
  constructor
  intro pins s σ H Q I h
  refine wpAny_Call_Name_kw (ld_glob I hg hm ?_ hdb)
  exact PySem.W.callWith_K0 I.kIn hk (runG (us := []) Fn hr hgd hb hx I .nil h)
/-! keywords: perm says which of all values (the positional ones, then the keywords' ones) stands at each parameter -/
def permL {α : Type} (perm : List Nat) (l : List α) : List α := perm.filterMap fun i => l[i]?
theorem permL_paired {α β : Type} {R : α → β → Prop} {xs : List α} {ys : List β} (r : Paired R xs ys) : ∀ perm : List Nat, Paired R (permL perm xs) (permL perm ys)
  | [] => .nil
  | i :: perm => by
    have ih := permL_paired r perm
    unfold permL at ih ⊢
    rw [List.filterMap_cons, List.filterMap_cons]
    cases e : xs[i]? with
    | none =>
      have hl := r.length
      have e2 : ys[i]? = none := List.getElem?_eq_none_iff.mpr (by have := List.getElem?_eq_none_iff.mp e; omega)
      rw [e2]
      exact ih
    | some x =>
      obtain ⟨y, e2, q⟩ := pairAt r e
      rw [e2]
      exact .cons q ih
/-- how keywords are bound -/
structure KB (fd : FuncData) (ps : List Str) (n : Nat) (ks : List Str) (perm : List Nat) : Prop where
  to : ∀ (s : Shared) (us ws : List Value), us.length = n → ws.length = ks.length → BindsTo s fd ⟨us, ks.zip ws⟩ (ps.zip (permL perm (us ++ ws)))
  plen : perm.length = ps.length
  pok : ∀ i ∈ perm, i < n + ks.length
theorem permL_len {α : Type} {l : List α} : ∀ {perm : List Nat}, (∀ i ∈ perm, i < l.length) → (permL perm l).length = perm.length
  | [], _ => rfl
  | i :: perm, h => by
    have ih := permL_len (l := l) (perm := perm) fun j hj => h j (List.mem_cons_of_mem _ hj)
    unfold permL at ih ⊢
    have hi := h i List.mem_cons_self
    rw [List.filterMap_cons, List.getElem?_eq_getElem hi, List.length_cons, List.length_cons, ih]
theorem runKG {ks : List Str} {perm : List Nat} {pins : List (Addr × Obj)} {σ : L2.St} {H : Hp} {s : Shared} {Q : VK} {us ws : List Value} {vs zs : List V} (Fn : FnG X.prog X.w X.K X.mg X.base k f fd ps sp) (hr : Room k X.A) (hgd : X.A.guards = some []) (hb : KB fd ps n ks perm) (hx : Passes (L2.CX X.prog X.w) X E)
    (I : Inv X pins σ H s) (r : Vals vs us) (rz : Vals zs ws) (l1 : vs.length = n) (l2 : zs.length = ks.length) (h : sp (permL perm (vs ++ zs)) H Q E) : wpAny (model X.prog X.w) X.A (call (.ref f) us (ks.zip ws)) (EP X pins σ Q) X.xe s := by
  have r2 : Vals (permL perm (vs ++ zs)) (permL perm (us ++ ws)) := permL_paired (r.append rz) perm
  refine wpAny_call (codeAny_mono (Fn.run X.A X.stack s H _ _ _ Q E hr hgd I.env0 (hb.to s us ws (by rw [← r.length]; exact l1) (by rw [← rz.length]; exact l2)) r2 h) ?_)
  intro r s' hq
  have z := backG hx I hq
  cases r with
  | error er => exact z
  | ok fl => cases fl <;> first | exact z | exact z.elim
theorem pe_callKG {ks : List Str} {perm : List Nat} (Fn : FnG X.prog X.w X.K X.mg X.base k f fd ps sp) (hr : Room k X.A) (hgd : X.A.guards = some []) (hg : Gl X x) (hm : X.mg x = some (.ref f)) (hk : PySem.W.keepIn X.K (.ref f) = true) (hb : KB fd ps n ks perm) (hx : Passes (L2.CX X.prog X.w) X E)
    (ha : PA X (e :: es) t) (hkw : PK X kws t2) (hall : (backToKw pos (keywordEach kws X.env)).all (·.1.isSome) = true) (hks : (backToKw pos (keywordEach kws X.env)).filterMap (·.1) = ks) (hdb : (x == ("__debug__" : Str)) = false)
    (he : starEach (e :: es) X.env = (false, eval e X.env) :: starEach es X.env) (hpl : ((backTo pos (starEach (e :: es) X.env)).any (·.1) || (backToKw pos (keywordEach kws X.env)).any (·.1.isNone)) = false) :
    PE X (.Call (.Name x p) (e :: es) kws pos) (fun σ H Q => t σ H fun vs H1 => t2 σ H1 fun zs H2 => vs.length = n ∧ zs.length = ks.length ∧ sp (permL perm (vs ++ zs)) H2 Q E) := by
  constructor
  intro pins s σ H Q I h
  refine wpAny_Call_Name_kw (ld_glob I hg hm ?_ hdb)
  refine PySem.W.callWith_KW (h₀ := X.base) I.ok.mod.kin hk hall (thn (ha.run pos pins s σ H _ I h) ?_) hpl he
  rintro us s1 ⟨vs, H1, I1, r, q⟩
  refine thn (hkw.run pos pins s1 σ H1 _ I1 q) ?_
  rintro ws s2 ⟨zs, H2, I2, rz, l1, l2, q2⟩
  rw [hks]
  exact ⟨I2.kIn, runKG Fn hr hgd hb hx I2 r rz l1 l2 q2⟩
theorem pe_callKG0 {ks : List Str} {perm : List Nat} (Fn : FnG X.prog X.w X.K X.mg X.base k f fd ps sp) (hr : Room k X.A) (hgd : X.A.guards = some []) (hg : Gl X x) (hm : X.mg x = some (.ref f)) (hk : PySem.W.keepIn X.K (.ref f) = true) (hb : KB fd ps 0 ks perm) (hx : Passes (L2.CX X.prog X.w) X E)
    (hkw : PK X kws t2) (hall : (backToKw pos (keywordEach kws X.env)).all (·.1.isSome) = true) (hks : (backToKw pos (keywordEach kws X.env)).filterMap (·.1) = ks) (hdb : (x == ("__debug__" : Str)) = false)
    (hpl : ((backTo pos (starEach [] X.env)).any (·.1) || (backToKw pos (keywordEach kws X.env)).any (·.1.isNone)) = false) :
    PE X (.Call (.Name x p) [] kws pos) (fun σ H Q => t2 σ H fun zs H2 => zs.length = ks.length ∧ sp (permL perm zs) H2 Q E) := by
  constructor
  intro pins s σ H Q I h
  refine wpAny_Call_Name_kw (ld_glob I hg hm ?_ hdb)
  refine PySem.W.callWith_KW0 (h₀ := X.base) I.ok.mod.kin hk hall ?_ hpl
  refine thn (hkw.run pos pins s σ H _ I h) ?_
  rintro ws s2 ⟨zs, H2, I2, rz, l2, q2⟩
  rw [hks]
  exact ⟨I2.kIn, runKG (us := []) (vs := []) Fn hr hgd hb hx I2 .nil rz rfl l2 q2⟩
/-! over data -/
theorem pd_callG (Fn : FnG X.prog X.w X.K X.mg X.base k f fd ps (spD X.K X.mg n mir)) (hr : Room k X.A) (hgd : X.A.guards = some []) (hg : Gl X x) (hm : X.mg x = some (.ref f)) (hk : PySem.W.keepIn X.K (.ref f) = true) (hb : Binds X.K fd ps []) (hx : Passes (L2.CX X.prog X.w) X E)
    (ha : PDa .ag X as E (e :: es) ta) (hdb : (x == ("__debug__" : Str)) = false := by decide) (he : starEach (e :: es) X.env = (false, eval e X.env) :: starEach es X.env := by rfl) (hpl : (backTo pos (starEach es X.env)).any (·.1) = false := by rfl) :
    PD m X as E (.Call (.Name x p) (e :: es) [] pos) (dCall mir n ta) :=
  PD.by (pe_callG Fn hr hgd hg hm hk hb hx ha.pa hdb he hpl) fun σ H Q F0 H0 F ρ sp rl p => by
    have h := call_go rl p
    simpa only [List.append_nil] using h
theorem pd_call0G (Fn : FnG X.prog X.w X.K X.mg X.base k f fd ps (spD X.K X.mg n mir)) (hr : Room k X.A) (hgd : X.A.guards = some []) (hg : Gl X x) (hm : X.mg x = some (.ref f)) (hk : PySem.W.keepIn X.K (.ref f) = true) (hb : Binds X.K fd ps []) (hx : Passes (L2.CX X.prog X.w) X E)
    (hdb : (x == ("__debug__" : Str)) = false := by decide) : PD m X as E (.Call (.Name x p) [] [] pos) (dCall mir n dNil) :=
  PD.by (pe_call0G Fn hr hgd hg hm hk hb hx hdb) fun σ H Q F0 H0 F ρ sp rl p => by
    obtain ⟨F0', H0', F', ρ', sp', rl', p'⟩ := call_go rl p
    exact p' [] F' H (Gr.refl rl'.le) rl'.sp Side.nil
/-- the keywords' values -/
structure PDk (m : Md) (X : Cx) (as : Option Addr) (E : XK) (kws : List Keyword) (t : DA) : Prop where
  pk : PK X kws (TDa m X.K as X.mg E t)
theorem pdk_nil : PDk m X as E [] dNil := ⟨⟨fun po pins s σ H Q I ⟨F0, H0, F, ρ, sp, rl, p⟩ => pk_nil.run po pins s σ H Q I (p [] F H (Gr.refl rl.le) rl.sp Side.nil)⟩⟩
theorem pdk_cons {nm : Option Str} (ha : PD m X as E e te) (hr : PDk m X as E kws tk) : PDk m X as E (⟨nm, e, kpos⟩ :: kws) (dCons te tk) := by
  refine ⟨⟨fun po pins s σ H Q I ⟨F0, H0, F, ρ, sp, rl, p⟩ => (pk_cons ha.pe hr.pk).run po pins s σ H Q I ?_⟩⟩
  refine ⟨F0, H0, F, ρ, sp, rl, PV.imp (bindQ (m' := m) p.po) fun v H1 ⟨F1, s, sp1, e1, g1, q1, r1, p2⟩ => ?_⟩
  refine ⟨F0, H0, F1, ρ, sp1, rl.go g1 q1, PVa.imp (bindQa (m' := m) (p2.go g1)) fun vs H2 ⟨F2, ss, sp2, e2, g2, q2, r2, p3⟩ => ?_⟩
  exact p3 (v :: vs) F2 H2 (g1.trans g2) q2 (Side.cons r1 g2 g1.tr r2)
def dCallK (f : Mir) (n k0 k1 : Nat) (perm : List Nat) (ta tk : DA) : DE := fun ρ sp => (ta ρ sp).bind fun ss sp1 => (tk ρ sp1).bind fun zs sp2 => if ss.length = k0 ∧ zs.length = k1 then (match toAr (ss ++ zs) with
  | some r => if (permL perm r).length = n then f (permL perm r) sp2 else .bad
  | none => .bad) else .bad
theorem callK_end {ks : List Str} {perm : List Nat} {H : Hp} {Q : VK} {F H1 F1 : Hp} {k0 : Nat} {ss zs : List Sl} {vs : List V} {sp1 : SpO} (hn : perm.length = n) (hpk : ∀ i ∈ perm, i < k0 + ks.length) (g1 : Gr as F H F1 H1) (q1 : SpAt as sp1 H1) (hnas : ∀ a, as = some a → F1 a = none) (r1 : Paired (VM .ag X.K as H F1 H1) (ss ++ zs) vs)
    (p2 : PO X.K as X.mg E F H (fun s sp => ∀ v F' H', Gr as F H F' H' → SpAt as sp H' → VM m X.K as H F' H' s v → Q v H') (if ss.length = k0 ∧ zs.length = ks.length then (match toAr (ss ++ zs) with
      | some r => if (permL perm r).length = n then mir (permL perm r) sp1 else .bad
      | none => .bad) else .bad)) : ss.length = k0 ∧ zs.length = ks.length ∧ spD X.K X.mg n mir (permL perm vs) H1 Q E := by
  split at p2
  · rename_i hl
    refine ⟨hl.1, hl.2, ?_⟩
    cases z : toAr (ss ++ zs) with
    | none => rw [z] at p2; exact p2.elim
    | some r =>
      rw [z] at p2
      dsimp only at p2
      split at p2
      · rename_i hr
        obtain ⟨F2, g2, l2, hm2, r2⟩ := args_fz (m := .ag) (by intro e; cases e) g1 r1 z
        refine ⟨as, F2, sp1, permL perm r, hr, g2.le, q1, fun a ea => ?_, permL_paired r2 perm, (PO.v g2 p2).any⟩
        cases q : F2 a with
        | none => rfl
        | some o =>
          rcases hm2 a (by rw [q]; exact fun e => nomatch e) with h | h
          · exact absurd (hnas a ea) h
          · exact absurd ea (made_as (Paired.mapP r1 fun _ _ z => z.1) h)
      · exact p2.elim
  · exact p2.elim
theorem pd_callKG {ks : List Str} {perm : List Nat} {k0 : Nat} (Fn : FnG X.prog X.w X.K X.mg X.base k f fd ps (spD X.K X.mg n mir)) (hr : Room k X.A) (hgd : X.A.guards = some []) (hg : Gl X x) (hm : X.mg x = some (.ref f)) (hk : PySem.W.keepIn X.K (.ref f) = true) (hb : KB fd ps k0 ks perm) (hx : Passes (L2.CX X.prog X.w) X E)
    (ha : PDa .ag X as E (e :: es) ta) (hkw : PDk .ag X as E kws tk) (hn : perm.length = n := by rfl) (hall : (backToKw pos (keywordEach kws X.env)).all (·.1.isSome) = true := by rfl) (hks : (backToKw pos (keywordEach kws X.env)).filterMap (·.1) = ks := by rfl) (hdb : (x == ("__debug__" : Str)) = false := by decide)
    (he : starEach (e :: es) X.env = (false, eval e X.env) :: starEach es X.env := by rfl) (hpl : ((backTo pos (starEach (e :: es) X.env)).any (·.1) || (backToKw pos (keywordEach kws X.env)).any (·.1.isNone)) = false := by rfl) :
    PD m X as E (.Call (.Name x p) (e :: es) kws pos) (dCallK mir n k0 ks.length perm ta tk) :=
  PD.by (pe_callKG Fn hr hgd hg hm hk hb hx ha.pa hkw.pk hall hks hdb he hpl) fun σ H Q F0 H0 F ρ sp rl p => by
    refine ⟨F0, H0, F, ρ, sp, rl, PVa.imp (bindQa (m' := .ag) p.po) fun vs H1 ⟨F1, ss, sp1, e1, g1, q1, r1, p2⟩ => ?_⟩
    refine ⟨F0, H0, F1, ρ, sp1, rl.go g1 q1, PVa.imp (bindQa2 (m' := .ag) g1 p2) fun zs H2 ⟨F2, ss2, sp2, e2, g2, q2, r2, p3⟩ => ?_⟩
    have h := callK_end (m := m) (Q := Q) hn hb.pok (g1.trans g2) q2 ((rl.go g1 q1).go g2 q2).nas (pairApp (Paired.mapP r1.1 fun _ _ z => z.gr g2) (Paired.mapP r2.1 fun _ _ z => z.back g1.tr)) p3
    exact ⟨r1.1.length.symm.trans h.1, r2.1.length.symm.trans h.2.1, h.2.2⟩
theorem pd_callKG0 {ks : List Str} {perm : List Nat} (Fn : FnG X.prog X.w X.K X.mg X.base k f fd ps (spD X.K X.mg n mir)) (hr : Room k X.A) (hgd : X.A.guards = some []) (hg : Gl X x) (hm : X.mg x = some (.ref f)) (hk : PySem.W.keepIn X.K (.ref f) = true) (hb : KB fd ps 0 ks perm) (hx : Passes (L2.CX X.prog X.w) X E)
    (hkw : PDk .ag X as E kws tk) (hn : perm.length = n := by rfl) (hall : (backToKw pos (keywordEach kws X.env)).all (·.1.isSome) = true := by rfl) (hks : (backToKw pos (keywordEach kws X.env)).filterMap (·.1) = ks := by rfl) (hdb : (x == ("__debug__" : Str)) = false := by decide)
    (hpl : ((backTo pos (starEach [] X.env)).any (·.1) || (backToKw pos (keywordEach kws X.env)).any (·.1.isNone)) = false := by rfl) :
    PD m X as E (.Call (.Name x p) [] kws pos) (dCallK mir n 0 ks.length perm dNil tk) :=
  PD.by (pe_callKG0 Fn hr hgd hg hm hk hb hx hkw.pk hall hks hdb hpl) fun σ H Q F0 H0 F ρ sp rl p => by
    refine ⟨F0, H0, F, ρ, sp, rl, PVa.imp (bindQa (m' := .ag) (f := fun zs sp2 => if ([] : List Sl).length = 0 ∧ zs.length = ks.length then (match toAr ([] ++ zs) with
      | some r => if (permL perm r).length = n then mir (permL perm r) sp2 else .bad
      | none => .bad) else .bad) p.po) fun zs H2 ⟨F2, ss2, sp2, e2, g2, q2, r2, p3⟩ => ?_⟩
    have h := callK_end (m := m) (Q := Q) (ss := []) hn hb.pok g2 q2 (rl.go g2 q2).nas (show Paired (VM .ag X.K as H F2 H2) ([] ++ ss2) zs from r2.1) p3
    exact ⟨r2.1.length.symm.trans h.2.1, h.2.2⟩
end
end Dn
namespace Dn
open PySem PySem.Spec PyProof.Rows L2

/-! ### subscripts -/
section
variable {K : PySem.W.Frag}
theorem atI_rp {F : Hp} {xs : List V} {ds : List D} {i : Int} {d : D} (r : RpA K F xs ds) (e : atI ds i = some d) : ∃ v, atI xs i = some v ∧ Rp K F v d := by
  unfold atI at e ⊢
  rw [r.length]
  cases q : ixN ds.length i with
  | none => rw [q] at e; cases e
  | some j =>
    rw [q] at e
    obtain ⟨v, e2, r2⟩ := r.get' e
    exact ⟨v, e2, r2⟩
theorem gd_ix : OpD K (fun x y H Q => rIxL K x y H Q ∨ rIxT K x y H Q) gIx := by
  intro as F H x y dx dy z Q l hx hy e n q
  unfold gIx at e
  split at e
  · obtain ⟨p, xs, rfl, h1, r1⟩ := hx.list l
    obtain rfl := hy.int
    obtain ⟨d, e1, e2⟩ := Option.map_eq_some_iff.mp e
    obtain ⟨v, e3, r3⟩ := atI_rp r1 e1
    exact .inl ⟨p, xs, _, v, rfl, rfl, h1, e3, ans (congrArg some e2) l q r3⟩
  · obtain ⟨p, xs, rfl, h1, r1⟩ := hx.tup l
    obtain rfl := hy.int
    obtain ⟨d, e1, e2⟩ := Option.map_eq_some_iff.mp e
    obtain ⟨v, e3, r3⟩ := atI_rp r1 e1
    exact .inr ⟨p, xs, _, v, rfl, rfl, h1, e3, ans (congrArg some e2) l q r3⟩
  · cases e
end
def dSpr (i : Nat) (k : Nat) : DE := fun ρ sp => match ρ[i]?, sp with
  | some .spr, some (x, y, z) => match k with
    | 0 => .ok (.dat (.int x)) sp
    | 1 => .ok (.dat (.int y)) sp
    | 2 => .ok (.dat (.int z)) sp
    | _ => .bad
  | _, _ => .bad
section
variable {X : Cx} {as : Option Addr} {E : XK} {m : Md} {a b c e : Expr} {ta tb tc te : DE} {pos p p2 : Pos} {x : Str} {i k : Nat}
theorem pd_ix (ha : PD .rd X as E a ta) (hb : PD .rd X as E b tb) (hs : PlainIx b := by intro _ _; rfl) : PD m X as E (.Subscript a b pos) (dB gIx ta tb) :=
  PD.by (pe_ix (ix_list.or ix_tup) ha.pe hb.pe hs) fun _ _ _ _ _ _ _ _ rl p => two_go gd_ix rl p
theorem pd_spr {j : Nat} (hN : X.N[i]? = some x) (hv : Vis X.env.scope x) (hd : (x == ("__debug__" : Str)) = false := by decide) (hcd : (x == ("__classdict__" : Str)) = false := by decide) :
    PD m X as E (.Subscript (.Name x p) (.Constant (.int (k : Nat)) j p2) pos) (dSpr i k) :=
  PD.by (pe_ix ix_list (pe_var hN hv hd hcd) pe_int (by intro _ _; rfl)) fun σ H Q F0 H0 F ρ sp rl p => by
    unfold dSpr at p
    split at p
    · rename_i x1 y1 z1 q
      obtain ⟨v, h1, ⟨b, rfl, eb⟩, h3⟩ := rl.slot i _ q (fun e => nomatch e)
      have s0 := rl.sp
      subst eb
      have hs : H b = some (.lst [.int x1, .int y1, .int z1]) := s0
      refine ⟨.ref b, h1, ?_⟩
      split at p
      · exact ⟨b, _, _, .int x1, rfl, rfl, .inl (.inl hs), rfl, p _ F H (Gr.refl rl.le) rl.sp (VM.of_dat (.int _))⟩
      · exact ⟨b, _, _, .int y1, rfl, rfl, .inl (.inl hs), rfl, p _ F H (Gr.refl rl.le) rl.sp (VM.of_dat (.int _))⟩
      · exact ⟨b, _, _, .int z1, rfl, rfl, .inl (.inl hs), rfl, p _ F H (Gr.refl rl.le) rl.sp (VM.of_dat (.int _))⟩
      · exact p.elim
    · exact p.elim
end
/-! ### slices -/
abbrev DP := Env_ → SpO → Out (Option Int)
def dP0 : DP := fun _ sp => .ok none sp
def dP1 (te : DE) : DP := fun ρ sp => (te ρ sp).bind fun s sp1 => match s with
  | .dat (.int i) => .ok (some i) sp1
  | _ => .bad
def PVp (K : PySem.W.Frag) (as : Option Addr) (mg : Str → Option Value) (E : XK) (F H : Hp) (Q : Option Int → Hp → Prop) : Out (Option Int) → Prop :=
  PO K as mg E F H fun o sp => ∀ F' H', Gr as F H F' H' → SpAt as sp H' → Q o H'
def TDp (K : PySem.W.Frag) (as : Option Addr) (mg : Str → Option Value) (E : XK) (t : DP) : TO := fun σ H Q =>
  ∃ F0 H0 F ρ sp, Rl K as F0 H0 F H sp ρ σ ∧ PVp K as mg E F H Q (t ρ sp)
structure PDp (X : Cx) (as : Option Addr) (E : XK) (e : Option Expr) (t : DP) : Prop where
  po : L2.PO X e (TDp X.K as X.mg E t)
def gSl (d : D) (lo hi : Option Int) : Option Sl := match d with
  | .list xs => some (.ol (cutD xs lo hi))
  | .tuple xs => some (.dat (.tuple (cutD xs lo hi)))
  | _ => none
def dSl (te : DE) (tl th : DP) : DE := fun ρ sp => (te ρ sp).bind fun s sp1 => (tl ρ sp1).bind fun lo sp2 => (th ρ sp2).bind fun hi sp3 => opt (s.d?.bind fun d => gSl d lo hi) sp3
theorem bindQp {β : Type} {K : PySem.W.Frag} {as : Option Addr} {mg : Str → Option Value} {E : XK} {F H : Hp} {G : β → SpO → Prop} {o : Out (Option Int)} {f : Option Int → SpO → Out β} (p : PO K as mg E F H G (o.bind f)) :
    PVp K as mg E F H (fun v H1 => ∃ F' sp, o = .ok v sp ∧ Gr as F H F' H1 ∧ SpAt as sp H1 ∧ PO K as mg E F H G (f v sp)) o := by
  cases o with
  | ok s sp => exact fun F' H' g q => ⟨F', sp, rfl, g, q, p⟩
  | exc e sp => exact p
  | bad => exact p
theorem PVp.imp {K : PySem.W.Frag} {as : Option Addr} {mg : Str → Option Value} {E : XK} {F H : Hp} {Q Q' : Option Int → Hp → Prop} {o : Out (Option Int)} (p : PVp K as mg E F H Q o) (h : ∀ v H', Q v H' → Q' v H') : PVp K as mg E F H Q' o := by
  cases o with
  | ok s sp => exact fun F' H' g q => h _ _ (p F' H' g q)
  | exc e sp => exact p
  | bad => exact p
theorem cut_rp {K : PySem.W.Frag} {F : Hp} {xs : List V} {ds : List D} (r : RpA K F xs ds) (lo hi : Option Int) : RpA K F (cutV xs lo hi) (cutD ds lo hi) := by
  unfold cutV cutD
  rw [r.length]
  exact (r.drop _).take _
theorem cut_all {K : PySem.W.Frag} {F : Hp} {xs : List V} {ds : List D} (r : RpA K F xs ds) {lo hi : Option Int} (h : HT.sIx xs.length 0 lo = 0 ∧ HT.sIx xs.length xs.length hi = xs.length) : cutD ds lo hi = ds := by
  unfold cutD
  rw [← r.length, h.1, h.2, r.length]
  simp
section
variable {X : Cx} {as : Option Addr} {E : XK} {m : Md} {a b c e : Expr} {ta tb tc te : DE} {pos p p2 : Pos} {lo hi : Option Expr} {tl th : DP}
theorem pdp_none : PDp X as E none dP0 := ⟨⟨fun pins s σ H Q I ⟨F0, H0, F, ρ, sp, rl, p⟩ => po_none.run pins s σ H Q I (p F H (Gr.refl rl.le) rl.sp)⟩⟩
theorem pdp_some (ha : PD .rd X as E e te) : PDp X as E (some e) (dP1 te) := by
  refine ⟨⟨fun pins s σ H Q I ⟨F0, H0, F, ρ, sp, rl, p⟩ => (po_some ha.pe).run pins s σ H Q I ⟨F0, H0, F, ρ, sp, rl, PV.imp (bindQ (m' := .rd) p) fun v H1 ⟨F1, s, sp1, e1, g1, q1, r1, p2⟩ => ?_⟩⟩⟩
  split at p2
  · obtain rfl := (Rd.of (d := .int _) rfl r1.1).int
    exact ⟨_, rfl, p2 F1 H1 g1 q1⟩
  · exact p2.elim
theorem pd_slice (ha : PD .rd X as E e te) (hl : PDp X as E lo tl) (hu : PDp X as E hi th) : PD m X as E (.Subscript e (.Slice lo hi none p2) pos) (dSl te tl th) :=
  PD.by (pe_slice (sl_list.or sl_tupA) ha.pe hl.po hu.po) fun σ H Q F0 H0 F ρ sp rl p => by
    refine ⟨F0, H0, F, ρ, sp, rl, PV.imp (bindQ (m' := .rd) p.po) fun v H1 ⟨F1, s, sp1, e1, g1, q1, r1, p2⟩ => ?_⟩
    refine ⟨F0, H0, F1, ρ, sp1, rl.go g1 q1, PVp.imp (bindQp (p2.go g1)) fun l H2 ⟨F2, sp2, e2, g2, q2, p3⟩ => ?_⟩
    refine ⟨F0, H0, F2, ρ, sp2, (rl.go g1 q1).go g2 q2, PVp.imp (bindQp (p3.go g2)) fun u H3 ⟨F3, sp3, e3, g3, q3, p4⟩ => ?_⟩
    cases z : (s.d?.bind fun d => gSl d l u) with
    | none => rw [z] at p4; exact p4.elim
    | some w =>
      rw [z] at p4
      obtain ⟨d, hd, hz⟩ := Option.bind_eq_some_iff.mp z
      have rd := Rd.of hd ((r1.1.gr g2).gr g3)
      have g13 := g1.trans (g2.trans g3)
      have q : ∀ w' F' H', Gr as F3 H3 F' H' → Le H3 H' → VM .vl X.K as H3 F' H' w w' → Q w' H' := fun w' F' H' g4 k4 vm => p4 w' F' H' (g13.trans g4) (q3.keep k4) (vm.any.back g13.tr)
      unfold gSl at hz
      split at hz
      · obtain ⟨a, xs, rfl, h1, rr⟩ := rd.list g3.le
        exact .inl ⟨a, xs, rfl, h1, fun pp hp => ansL hz g3.le q3.ne q (cut_rp rr l u) hp⟩
      · obtain ⟨a, xs, rfl, h1, rr⟩ := rd.tup g3.le
        refine .inr ⟨a, xs, rfl, h1, fun h => ?_, fun _ pp hp => ansT hz g3.le q (cut_rp rr l u) hp⟩
        rw [cut_all rr h] at hz
        exact ans hz g3.le q rd.tupF
      · cases hz
end
/-! ### a tuple turned round -/
theorem rev_adjust (n : Nat) : Builtin.Slice.sliceAdjust none none (-1) (n : Int) = ((n : Int) - 1, -1) := by
  unfold Builtin.Slice.sliceAdjust
  simp
theorem rev_places (n : Nat) : Builtin.Slice.slicePlaces ((n : Int) - 1) (-1) (-1) = n := by
  unfold Builtin.Slice.slicePlaces
  simp only [show ¬ ((-1 : Int) > 0) by decide, if_false]
  have e : ((n : Int) - 1 - -1 - 1) / - -1 = (n : Int) - 1 := by
    rw [show (- -1 : Int) = 1 from rfl, Int.ediv_one]
    omega
  split <;> omega
theorem rev_pick (xs : Array Value) : ((List.range xs.size).filterMap fun (m : Nat) => xs[((xs.size : Int) - 1 + (m : Int) * (-1)).toNat]?).toArray = xs.toList.reverse.toArray := by
  congr 1
  apply List.ext_getElem?
  intro i
  have h : ∀ m ∈ List.range xs.size, xs[((xs.size : Int) - 1 + (m : Int) * (-1)).toNat]? = some (xs.getD (xs.size - 1 - m) default) := by
    intro m hm
    have hm := List.mem_range.mp hm
    have e : ((xs.size : Int) - 1 + (m : Int) * (-1)).toNat = xs.size - 1 - m := by omega
    rw [e]
    have : xs.size - 1 - m < xs.size := by omega
    simp [Array.getD, this]
  have e2 : (List.range xs.size).filterMap (fun (m : Nat) => xs[((xs.size : Int) - 1 + (m : Int) * (-1)).toNat]?) = (List.range xs.size).map fun m => xs.getD (xs.size - 1 - m) default := by
    generalize List.range xs.size = l at h
    induction l with
    | nil => rfl
    | cons a l ih =>
      rw [List.filterMap_cons, h a List.mem_cons_self, List.map_cons, ih fun m hm => h m (List.mem_cons_of_mem _ hm)]
  rw [e2]
  by_cases hi : i < xs.size
  · rw [List.getElem?_map, List.getElem?_range hi, List.getElem?_reverse (by simpa using hi)]
    have : xs.size - 1 - i < xs.size := by omega
    simp [Array.getD, this]
  · rw [List.getElem?_eq_none (by simp; omega), List.getElem?_eq_none (by simp; omega)]
section
variable {prog : Program} {w : World} {A : Around} {E : Value → Shared → Prop} {s : Shared}
theorem getItem_tuple_rev {t sl : Addr} {items : Array Value} {vl vu vs : Value} {Q : Value → Shared → Prop} (ht : IsTup s.heap t items) (hs : s.heap.IsSliceOf sl vl vu vs) (pl : IsPart vl none) (pu : IsPart vu none) (ps : IsPart vs (some (-1)))
    (h : Q (.ref s.heap.objs.size) { s with heap := s.heap.push { cls := .type "tuple", data := .seq items.toList.reverse.toArray } }) (hsz : items.size ≤ sizeLine) :
    wpAny (model prog w) A (getItem (.ref t) (.ref sl)) Q E s := by
  have fit : sizeOk (.seq items.toList.reverse.toArray) := by
    show items.toList.reverse.toArray.size ≤ sizeLine
    simpa using hsz
  obtain ⟨os, hos, hcs, hds⟩ := id hs
  have isSl : s.TypeIs (.ref sl) "slice" := ⟨os, hos, hcs⟩
  cases pl
  cases pu
  cases ps
  rename_i tk
  unfold getItem
  try with_reducible refine wpAny_holding ?_
  first | refine wpAny_bind (wpAny_pure ?_) | skip
  refine wpAny_bind (wpAny_sequenceKey ht.typeIs (by decide) ?_)
  refine wpAny_bind (wpAny_callSpecial?_slot (name := Str.ofString "__getitem__") ht.typeIs PyProof.Rows.slot_tuple_getitem ?_)
  refine wpAny_call_entry PyProof.Rows.slot_tuple_getitem ht.typeIs entry_tuple_getitem ?_ (args_tuple_getitem _ _)
  show wpAny _ _ (Builtin.Tuple.tupleItemsOf (.ref t) >>= _) _ _ s
  refine wpAny_bind (tupleItemsOf_ ht (wpAny_bind (wpAny_typeOf isSl ?_)))
  rw [if_pos (by decide)]
  refine wpAny_bind ?_
  unfold Builtin.Slice.sliceApplied Builtin.Slice.sliceFields
  refine wpAny_bind (wpAny_bind (wpAny_field hos hds (x := .none) rfl (wpAny_bind (wpAny_field hos hds (x := .none) rfl (wpAny_bind (wpAny_field hos hds (x := .int (-1) tk) rfl (wpAny_pure ?_)))))))
  refine wpAny_bind (HT.slicePart_ (.int (-1) tk) ?_)
  show wpAny _ _ (if ((-1 : Int) == 0) = true then _ else _) _ _ s
  rw [if_neg (by decide)]
  refine wpAny_bind (HT.slicePart_ .none (wpAny_bind (HT.slicePart_ .none (wpAny_bind (wpAny_pure ?_)))))
  show wpAny _ _ (match Builtin.Slice.sliceAdjust none none (-1) (items.size : Int) with | (lo, hi) => pure (lo, (-1 : Int), Builtin.Slice.slicePlaces lo hi (-1))) _ _ s
  rw [rev_adjust]
  show wpAny _ _ (pure (((items.size : Int) - 1), (-1 : Int), Builtin.Slice.slicePlaces ((items.size : Int) - 1) (-1) (-1))) _ _ s
  rw [rev_places]
  refine wpAny_pure ?_
  show wpAny _ _ (if (((items.size : Int) - 1) == 0 && (-1 : Int) == 1 && items.size == items.size) = true then _ else _) _ _ s
  rw [if_neg (by simp), rev_pick]
  first
    | exact wpAny_bind (m := Builtin.Tuple.tupleExact _) (wpAny_newObj_type (wpAny_pure ⟨_, rfl, wpAny_pure h⟩) fit)
    | exact wpAny_bind (m := Builtin.Tuple.tupleExact _) (wpAny_newObj_type (wpAny_bind (wpAny_pure (wpAny_pure ⟨_, rfl, wpAny_pure h⟩))) fit)
    | exact wpAny_bind (wpAny_bind (m := Builtin.Tuple.tupleExact _) (wpAny_newObj_type (wpAny_pure (wpAny_pure ⟨_, rfl, wpAny_pure h⟩)) fit))
    | exact wpAny_bind (wpAny_bind (m := Builtin.Tuple.tupleExact _) (wpAny_newObj_type (wpAny_pure ⟨_, rfl, wpAny_pure h⟩) fit))
end
end Dn
namespace Dn
open PySem PySem.Spec PyProof.Rows L2

/-! ### built-ins -/
def Cont (K : PySem.W.Frag) (as : Option Addr) (F H : Hp) (z : Sl) (Q : VK) : Prop := ∀ w F' H', Gr as F H F' H' → Le H H' → VM .vl K as H F' H' z w → Q w H'
/-- what is asked of a built-in's call -/
def rG (K : PySem.W.Frag) (as : Option Addr) (g : List Sl → Option Sl) : List V → Hp → VK → Prop := fun vs H Q => ∃ F ss z, Le F H ∧ Paired (VR K as F H) ss vs ∧ g ss = some z ∧ (∀ a, as = some a → H a ≠ none) ∧ Cont K as F H z Q
def dBu (g : List Sl → Option Sl) (ta : DA) : DE := fun ρ sp => (ta ρ sp).bind fun ss sp1 => opt (g ss) sp1
section
variable {X : Cx} {as : Option Addr} {E : XK} {m : Md} {e : Expr} {es : List Expr} {te : DE} {ta : DA} {p pos : Pos} {x : Str} {id T : String} {g : List Sl → Option Sl} {f : Value}
theorem bu_go {σ : L2.St} {H : Hp} {Q : VK} {F0 H0 F : Hp} {ρ : Env_} {sp : SpO} (rl : Rl X.K as F0 H0 F H sp ρ σ) (p : PV m X.K as X.mg E F H Q (dBu g ta ρ sp)) : TDa .rd X.K as X.mg E ta σ H fun vs H1 => rG X.K as g vs H1 Q := by
  refine ⟨F0, H0, F, ρ, sp, rl, PVa.imp (bindQa (m' := .rd) p.po) fun vs H1 ⟨F1, ss, sp1, e1, g1, q1, r1, p2⟩ => ?_⟩
  cases z : g ss with
  | none => rw [z] at p2; exact p2.elim
  | some w =>
    rw [z] at p2
    exact ⟨F1, ss, w, g1.le, Paired.mapP r1.1 fun _ _ q => q.1, z, q1.ne, fun w' F' H' g2 k2 vm => p2 w' F' H' (g1.trans g2) (q1.keep k2) (vm.any.back g1.tr)⟩
theorem pd_bu (hc : CallR X (.builtin id) (rG X.K as g)) (hv : bootBuiltins x = some (.builtin id)) (hg : Gl X x) (hm : X.mg x = none) (ha : PDa .rd X as E (e :: es) ta) (hn : x ≠ "__name__" := by decide) (hdb : (x == ("__debug__" : Str)) = false := by decide)
    (he : starEach (e :: es) X.env = (false, eval e X.env) :: starEach es X.env := by rfl) (hpl : (backTo pos (starEach es X.env)).any (·.1) = false := by rfl) : PD m X as E (.Call (.Name x p) (e :: es) [] pos) (dBu g ta) :=
  PD.by (pe_callB hc hg hm hv ha.pa hn hdb he hpl) fun _ _ _ _ _ _ _ _ rl p => bu_go rl p
theorem pd_buT (hc : CallR X (.type T) (rG X.K as g)) (hv : bootBuiltins x = some (.type T)) (hg : Gl X x) (hm : X.mg x = none) (ha : PDa .rd X as E (e :: es) ta) (hn : x ≠ "__name__" := by decide) (hdb : (x == ("__debug__" : Str)) = false := by decide)
    (he : starEach (e :: es) X.env = (false, eval e X.env) :: starEach es X.env := by rfl) (hpl : (backTo pos (starEach es X.env)).any (·.1) = false := by rfl) : PD m X as E (.Call (.Name x p) (e :: es) [] pos) (dBu g ta) :=
  PD.by (pe_callTy hc hg hm hv ha.pa hn hdb he hpl) fun _ _ _ _ _ _ _ _ rl p => bu_go rl p
theorem CallR.imp {f : Value} {r r' : List V → Hp → VK → Prop} (h : CallR X f r) (i : ∀ vs H Q, r' vs H Q → r vs H Q) : CallR X f r' := fun pins s σ H xs us Q I rs q => h pins s σ H xs us Q I rs (i _ _ _ q)
end
section
variable {K : PySem.W.Frag} {as : Option Addr} {F H : Hp} {Q : VK} {s z : Sl} {v : V}
theorem Cont.d {d : D} (c : Cont K as F H z Q) (e : some (Sl.dat d) = some z) (l : Le F H) (r : Rp K F v d) : Q v H := ans e l c r
theorem Cont.L {vs : List V} {ds : List D} (c : Cont K as F H z Q) (e : some (Sl.ol ds) = some z) (l : Le F H) (n : ∀ a, as = some a → H a ≠ none) (r : RpA K F vs ds) {p : Addr} (hp : H p = none) : Q (.ref p) (upd H p (.lst vs)) := ansL e l n c r hp
theorem Cont.T {vs : List V} {ds : List D} (c : Cont K as F H z Q) (e : some (Sl.dat (.tuple ds)) = some z) (l : Le F H) (r : RpA K F vs ds) {p : Addr} (hp : H p = none) : Q (.ref p) (upd H p (.tup vs)) := ansT e l c r hp
theorem pr1 {P : Sl → V → Prop} {s : Sl} {vs : List V} (h : Paired P [s] vs) : ∃ v, vs = [v] ∧ P s v := by
  cases h with
  | cons r t => cases t; exact ⟨_, rfl, r⟩
theorem pr2 {P : Sl → V → Prop} {s t : Sl} {vs : List V} (h : Paired P [s, t] vs) : ∃ v w, vs = [v, w] ∧ P s v ∧ P t w := by
  cases h with
  | cons r t => cases t with
    | cons r2 t2 => cases t2; exact ⟨_, _, rfl, r, r2⟩
def lstD : Sl → Option (List D)
  | .dat (.list xs) => some xs
  | .ol xs => some xs
  | _ => none
@[simp] theorem lstD_dat (xs : List D) : lstD (.dat (.list xs)) = some xs := rfl
@[simp] theorem lstD_ol (xs : List D) : lstD (.ol xs) = some xs := rfl
theorem lstD_v {ds : List D} (l : Le F H) (e : lstD s = some ds) (h : VR K as F H s v) : ∃ a vs, v = .ref a ∧ SqL K H a vs ∧ RpA K F vs ds := by
  unfold lstD at e
  split at e
  · cases e; exact (Rd.of (d := .list _) rfl h).list l
  · cases e; exact (Rd.of (d := .list _) rfl h).list l
  · cases e
def ints? : List D → Option (List Int)
  | [] => some []
  | .int i :: ds => (ints? ds).map (i :: ·)
  | _ => none
theorem ints?_eq : ∀ {ds : List D} {ns : List Int}, ints? ds = some ns → ds = ns.map PyData.int
  | [], _, e => by cases e; rfl
  | d :: ds, ns, e => by
    unfold ints? at e
    split at e
    · rename_i q; cases q
    · rename_i q; cases q
      obtain ⟨ns', e1, e2⟩ := Option.map_eq_some_iff.mp e
      cases e2
      rw [ints?_eq e1]; rfl
    · cases e
@[simp] theorem ints?_map : ∀ ns : List Int, ints? (ns.map PyData.int) = some ns
  | [] => rfl
  | n :: ns => by rw [List.map_cons]; unfold ints?; rw [ints?_map ns]; rfl
def bools? : List D → Option (List Bool)
  | [] => some []
  | .bool i :: ds => (bools? ds).map (i :: ·)
  | _ => none
theorem bools?_eq : ∀ {ds : List D} {ns : List Bool}, bools? ds = some ns → ds = ns.map PyData.bool
  | [], _, e => by cases e; rfl
  | d :: ds, ns, e => by
    unfold bools? at e
    split at e
    · rename_i q; cases q
    · rename_i q; cases q
      obtain ⟨ns', e1, e2⟩ := Option.map_eq_some_iff.mp e
      cases e2
      rw [bools?_eq e1]; rfl
    · cases e
@[simp] theorem bools?_map : ∀ ns : List Bool, bools? (ns.map PyData.bool) = some ns
  | [] => rfl
  | n :: ns => by rw [List.map_cons]; unfold bools?; rw [bools?_map ns]; rfl
/-- a list of ints, read -/
theorem ints_v {ds : List D} {ns : List Int} (l : Le F H) (e : lstD s = some ds) (e2 : ints? ds = some ns) (h : VR K as F H s v) : ∃ a, v = .ref a ∧ SqL K H a (ns.map V.int) := by
  obtain ⟨a, vs, rfl, h1, r⟩ := lstD_v l e h
  rw [ints?_eq e2] at r
  rw [RpA.ints r] at h1
  exact ⟨a, rfl, h1⟩
theorem bools_v {ds : List D} {ns : List Bool} (l : Le F H) (e : lstD s = some ds) (e2 : bools? ds = some ns) (h : VR K as F H s v) : ∃ a, v = .ref a ∧ SqL K H a (ns.map V.bl) := by
  obtain ⟨a, vs, rfl, h1, r⟩ := lstD_v l e h
  rw [bools?_eq e2] at r
  rw [RpA.bools r] at h1
  exact ⟨a, rfl, h1⟩
end
/-! ### len, abs, int, max, min, sum, all, any, divmod, list, tuple -/
def gLen : List Sl → Option Sl
  | [.os ns] => if ns.length ≤ 1048576 then some (.dat (.int ns.length)) else none
  | [.dat (.str y)] => if y.length ≤ sizeLine then some (.dat (.int y.length)) else none
  | [s] => (itemsD s).map fun ds => .dat (.int ds.length)
  | _ => none
def gAbs : List Sl → Option Sl
  | [.dat (.int i)] => some (.dat (.int (if i < 0 then -i else i)))
  | _ => none
def gInt : List Sl → Option Sl
  | [.dat (.int i)] => some (.dat (.int i))
  | [.dat (.bool b)] => some (.dat (.int (if b then 1 else 0)))
  | _ => none
def maxL : List Int → Int
  | [] => 0
  | [x] => x
  | x :: xs => if x ≤ maxL xs then maxL xs else x
def minL : List Int → Int
  | [] => 0
  | [x] => x
  | x :: xs => if minL xs ≤ x then minL xs else x
theorem maxL_is : ∀ {ns : List Int} {m : Int}, m ∈ ns → (∀ y ∈ ns, y ≤ m) → m = maxL ns
  | [x], m, h, _ => by simpa [maxL] using h
  | x :: y :: ns, m, h, hb => by
    have ih : ∀ k, k ∈ y :: ns → (∀ z ∈ y :: ns, z ≤ k) → k = maxL (y :: ns) := fun k h1 h2 => maxL_is h1 h2
    have hx := hb x List.mem_cons_self
    unfold maxL
    by_cases hm : m ∈ y :: ns
    · have := ih m hm fun z hz => hb z (List.mem_cons_of_mem _ hz)
      rw [← this, if_pos hx]
    · have e : m = x := by rcases List.mem_cons.mp h with e | e
                           · exact e
                           · exact absurd e hm
      subst e
      have lt : maxL (y :: ns) < m := by
        have mem : ∀ (l : List Int), l ≠ [] → maxL l ∈ l := by
          intro l
          induction l with
          | nil => intro h; exact absurd rfl h
          | cons a l ih2 =>
            intro _
            cases l with
            | nil => exact List.mem_cons_self
            | cons b l =>
              unfold maxL
              split
              · exact List.mem_cons_of_mem _ (ih2 (by simp))
              · exact List.mem_cons_self
        have h1 := mem (y :: ns) (by simp)
        have h2 := hb _ (List.mem_cons_of_mem _ h1)
        rcases Int.lt_or_eq_of_le h2 with h3 | h3
        · exact h3
        · rw [h3] at h1; exact absurd h1 hm
      rw [if_neg (by omega)]
theorem minL_is : ∀ {ns : List Int} {m : Int}, m ∈ ns → (∀ y ∈ ns, m ≤ y) → m = minL ns
  | [x], m, h, _ => by simpa [minL] using h
  | x :: y :: ns, m, h, hb => by
    have ih : ∀ k, k ∈ y :: ns → (∀ z ∈ y :: ns, k ≤ z) → k = minL (y :: ns) := fun k h1 h2 => minL_is h1 h2
    have hx := hb x List.mem_cons_self
    unfold minL
    by_cases hm : m ∈ y :: ns
    · have := ih m hm fun z hz => hb z (List.mem_cons_of_mem _ hz)
      rw [← this, if_pos hx]
    · have e : m = x := by rcases List.mem_cons.mp h with e | e
                           · exact e
                           · exact absurd e hm
      subst e
      have lt : m < minL (y :: ns) := by
        have mem : ∀ (l : List Int), l ≠ [] → minL l ∈ l := by
          intro l
          induction l with
          | nil => intro h; exact absurd rfl h
          | cons a l ih2 =>
            intro _
            cases l with
            | nil => exact List.mem_cons_self
            | cons b l =>
              unfold minL
              split
              · exact List.mem_cons_of_mem _ (ih2 (by simp))
              · exact List.mem_cons_self
        have h1 := mem (y :: ns) (by simp)
        have h2 := hb _ (List.mem_cons_of_mem _ h1)
        rcases Int.lt_or_eq_of_le h2 with h3 | h3
        · exact h3
        · rw [← h3] at h1; exact absurd h1 hm
      rw [if_neg (by omega)]
def gMax : List Sl → Option Sl
  | [.dat (.int i), .dat (.int j)] => some (.dat (.int (if j > i then j else i)))
  | [s] => (lstD s).bind fun ds => (ints? ds).bind fun ns => if ns.isEmpty then none else some (.dat (.int (maxL ns)))
  | _ => none
def gMin : List Sl → Option Sl
  | [.dat (.int i), .dat (.int j)] => some (.dat (.int (if j < i then j else i)))
  | [s] => (lstD s).bind fun ds => (ints? ds).bind fun ns => if ns.isEmpty then none else some (.dat (.int (minL ns)))
  | _ => none
def gAny : List Sl → Option Sl
  | [s] => (lstD s).bind fun ds => (bools? ds).map fun bs => .dat (.bool (bs.any id))
  | _ => none
def gAll : List Sl → Option Sl
  | [s] => (lstD s).bind fun ds => (bools? ds).map fun bs => .dat (.bool (bs.all id))
  | _ => none
def gDivmod : List Sl → Option Sl
  | [.dat (.int i), .dat (.int j)] => if 0 < j ∧ Builtin.divisionGoesByPylong i j = false then some (.dat (.tuple [.int (i / j), .int (i % j)])) else none
  | _ => none
def gList : List Sl → Option Sl
  | [s] => (itemsD s).map .ol
  | _ => none
def gTuple : List Sl → Option Sl
  | [s] => (itemsD s).map fun ds => .dat (.tuple ds)
  | _ => none
section
variable {X : Cx} {as : Option Addr}
theorem I_set {pins : List (Addr × Obj)} {σ : L2.St} {H : Hp} {s : Shared} (I : Inv X pins σ H s) {a : Addr} {S : Int → Bool} {n : Nat} (h : H a = some (.set S n)) : s.heap.SetOf (intKind X.prog X.w) a S n := I.hok a _ h
theorem cr_len : CallR X (.builtin "len") (rG X.K as gLen) := by
  intro pins s σ H xs us Q I r h
  obtain ⟨F, ss, z, l, pr, e, n, c⟩ := h
  unfold gLen at e
  split at e
  · split at e
    · rename_i ns hz
      obtain ⟨v, rfl, a, S, k, rfl, h1, h2, h3, h4, h5⟩ := pr1 pr
      obtain ⟨u, rfl, rx⟩ := vals1 r
      cases rx
      subst h5
      obtain ⟨o, es, ep, t, ho, hex, hd, _, _, _, hf, hn⟩ := I_set I h3
      refine PySem.call_len_set ho hex hd hf (by omega) ⟨.int ns.length, H, I.tok _, ⟨_, by rw [hn]⟩, c.d e l (.int _)⟩
    · cases e
  · split at e
    · rename_i y hz
      obtain ⟨v, rfl, hv⟩ := pr1 pr
      obtain rfl := (Rd.of (d := .str _) rfl hv).str
      exact call_len pins s σ H _ us Q I r ⟨_, _, rfl, ⟨hz, rfl⟩, c.d e l (.int _)⟩
    · cases e
  · obtain ⟨v, rfl, hv⟩ := pr1 pr
    obtain ⟨ds, e1, e2⟩ := Option.map_eq_some_iff.mp e
    obtain ⟨p, vs, rfl, h1, rr⟩ := itemsD_v l e1 hv
    refine call_len pins s σ H _ us Q I r ⟨_, ds.length, rfl, ?_, c.d (congrArg some e2) l (.int _)⟩
    rcases h1 with h1 | h1
    · exact .inr ⟨vs, h1, rr.length.symm⟩
    · exact .inl ⟨vs, h1, rr.length.symm⟩
  · cases e
theorem cr_abs : CallR X (.builtin "abs") (rG X.K as gAbs) := CallR.imp call_abs fun xs H Q ⟨F, ss, z, l, pr, e, n, c⟩ => by
  unfold gAbs at e
  split at e
  · obtain ⟨v, rfl, hv⟩ := pr1 pr
    obtain rfl := (Rd.of (d := .int _) rfl hv).int
    exact ⟨_, rfl, c.d e l (.int _)⟩
  · cases e
theorem cr_int : CallR X (.type "int") (rG X.K as gInt) := CallR.imp call_int1 fun xs H Q ⟨F, ss, z, l, pr, e, n, c⟩ => by
  unfold gInt at e
  split at e
  · obtain ⟨v, rfl, hv⟩ := pr1 pr
    obtain rfl := (Rd.of (d := .int _) rfl hv).int
    exact .inl ⟨_, rfl, c.d e l (.int _)⟩
  · obtain ⟨v, rfl, hv⟩ := pr1 pr
    obtain rfl := (Rd.of (d := .bool _) rfl hv).bool
    exact .inr ⟨_, rfl, c.d e l (.int _)⟩
  · cases e
theorem ne_of_emp {α : Type} {l : List α} (h : ¬ l.isEmpty = true) : 0 < l.length := by cases l <;> simp at h ⊢
theorem cr_max (hc : X.calm = true) : CallR X (.builtin "max") (rG X.K as gMax) := CallR.imp (CallR.or (call_max2 hc) (L2.cr_max hc)) fun xs H Q ⟨F, ss, z, l, pr, e, n, c⟩ => by
  unfold gMax at e
  split at e
  · obtain ⟨v, w, rfl, hv, hw⟩ := pr2 pr
    obtain rfl := (Rd.of (d := .int _) rfl hv).int
    obtain rfl := (Rd.of (d := .int _) rfl hw).int
    exact .inl ⟨_, _, rfl, c.d e l (.int _)⟩
  · obtain ⟨v, rfl, hv⟩ := pr1 pr
    obtain ⟨ds, e1, e⟩ := Option.bind_eq_some_iff.mp e
    obtain ⟨ns, e2, e⟩ := Option.bind_eq_some_iff.mp e
    split at e
    · cases e
    · rename_i hne
      obtain ⟨a, rfl, h1⟩ := ints_v l e1 e2 hv
      refine .inr ⟨a, ns, rfl, h1, ne_of_emp hne, fun m h2 h3 => ?_⟩
      rw [maxL_is h2 h3]
      exact c.d e l (.int _)
  · cases e
theorem cr_min (hc : X.calm = true) : CallR X (.builtin "min") (rG X.K as gMin) := CallR.imp (CallR.or (call_min2 hc) (L2.cr_min hc)) fun xs H Q ⟨F, ss, z, l, pr, e, n, c⟩ => by
  unfold gMin at e
  split at e
  · obtain ⟨v, w, rfl, hv, hw⟩ := pr2 pr
    obtain rfl := (Rd.of (d := .int _) rfl hv).int
    obtain rfl := (Rd.of (d := .int _) rfl hw).int
    exact .inl ⟨_, _, rfl, c.d e l (.int _)⟩
  · obtain ⟨v, rfl, hv⟩ := pr1 pr
    obtain ⟨ds, e1, e⟩ := Option.bind_eq_some_iff.mp e
    obtain ⟨ns, e2, e⟩ := Option.bind_eq_some_iff.mp e
    split at e
    · cases e
    · rename_i hne
      obtain ⟨a, rfl, h1⟩ := ints_v l e1 e2 hv
      refine .inr ⟨a, ns, rfl, h1, ne_of_emp hne, fun m h2 h3 => ?_⟩
      rw [minL_is h2 h3]
      exact c.d e l (.int _)
  · cases e
theorem cr_any (hc : X.calm = true) : CallR X (.builtin "any") (rG X.K as gAny) := CallR.imp (L2.cr_any hc) fun xs H Q ⟨F, ss, z, l, pr, e, n, c⟩ => by
  unfold gAny at e
  split at e
  · obtain ⟨v, rfl, hv⟩ := pr1 pr
    obtain ⟨ds, e1, e⟩ := Option.bind_eq_some_iff.mp e
    obtain ⟨ns, e2, e⟩ := Option.map_eq_some_iff.mp e
    obtain ⟨a, rfl, h1⟩ := bools_v l e1 e2 hv
    exact ⟨a, ns, rfl, h1, c.d (congrArg some e) l (.bl _)⟩
  · cases e
theorem cr_all (hc : X.calm = true) : CallR X (.builtin "all") (rG X.K as gAll) := CallR.imp (L2.cr_all hc) fun xs H Q ⟨F, ss, z, l, pr, e, n, c⟩ => by
  unfold gAll at e
  split at e
  · obtain ⟨v, rfl, hv⟩ := pr1 pr
    obtain ⟨ds, e1, e⟩ := Option.bind_eq_some_iff.mp e
    obtain ⟨ns, e2, e⟩ := Option.map_eq_some_iff.mp e
    obtain ⟨a, rfl, h1⟩ := bools_v l e1 e2 hv
    exact ⟨a, ns, rfl, h1, c.d (congrArg some e) l (.bl _)⟩
  · cases e
theorem cr_divmod : CallR X (.builtin "divmod") (rG X.K as gDivmod) := CallR.imp call_divmodW fun xs H Q ⟨F, ss, z, l, pr, e, n, c⟩ => by
  unfold gDivmod at e
  split at e
  · split at e
    · rename_i hz
      obtain ⟨v, w, rfl, hv, hw⟩ := pr2 pr
      obtain rfl := (Rd.of (d := .int _) rfl hv).int
      obtain rfl := (Rd.of (d := .int _) rfl hw).int
      exact ⟨_, _, rfl, hz, fun p hp => c.T e l (.cons (.int _) (.cons (.int _) .nil)) hp⟩
    · cases e
  · cases e
theorem cr_list : CallR X (.type "list") (rG X.K as gList) := CallR.imp call_list_of fun xs H Q ⟨F, ss, z, l, pr, e, n, c⟩ => by
  unfold gList at e
  split at e
  · obtain ⟨v, rfl, hv⟩ := pr1 pr
    obtain ⟨ds, e1, e2⟩ := Option.map_eq_some_iff.mp e
    obtain ⟨p, vs, rfl, h1, rr⟩ := itemsD_v l e1 hv
    exact ⟨p, vs, rfl, h1.symm, fun q hq => c.L (congrArg some e2) l n rr hq⟩
  · cases e
theorem cr_tuple : CallR X (.type "tuple") (rG X.K as gTuple) := CallR.imp call_tuple_of fun xs H Q ⟨F, ss, z, l, pr, e, n, c⟩ => by
  unfold gTuple at e
  split at e
  · rename_i s
    obtain ⟨v, rfl, hv⟩ := pr1 pr
    obtain ⟨ds, e1, e2⟩ := Option.map_eq_some_iff.mp e
    have e3 := congrArg some e2
    unfold itemsD at e1
    split at e1
    · cases e1
      obtain ⟨p, vs, rfl, h1, rr⟩ := (Rd.of (d := .list _) rfl hv).list l
      exact ⟨p, vs, rfl, .inl ⟨h1, fun q hq => c.T e3 l rr hq⟩⟩
    · cases e1
      have hF := (Rd.of (d := .tuple _) rfl hv).tupF
      obtain ⟨p, vs, rfl, h1, rr⟩ := (Rd.of (d := .tuple _) rfl hv).tup l
      exact ⟨p, vs, rfl, .inr ⟨h1, c.d e3 l hF⟩⟩
    · cases e1
      obtain ⟨p, vs, rfl, h1, rr⟩ := (Rd.of (d := .list _) rfl hv).list l
      exact ⟨p, vs, rfl, .inl ⟨h1, fun q hq => c.T e3 l rr hq⟩⟩
    · cases e1
  · cases e
end
end Dn
namespace Dn
open PySem PySem.Spec PyProof.Rows L2

/-! ### isinstance -/
def dIsi (f : D → Bool) (te : DE) : DE := fun ρ sp => (te ρ sp).bind fun s sp1 => match s.d? with
  | some d => if d.hasDict = false then .ok (.dat (.bool (f d))) sp1 else .bad
  | none => .bad
/-- the library's answer for a built-in type -/
def IsiOk (T : String) (f : D → Bool) : Prop := ∀ (prog : Program) (w : World) (A : Around) (E : Value → Shared → Prop) (s : Shared) (v : Value) (d : PyData) (as : List Addr) (Q : Value → Shared → Prop), Reads s.heap v d as →
  (∀ tk, s.toks ≤ tk → Q (.bool (f d)) { s with toks := tk }) → wpAny (model prog w) A (call (.builtin "isinstance") [v, .type T]) Q E s
theorem isi_int : IsiOk "int" PyData.isInt := fun _ _ _ _ _ _ _ _ _ r h => PySem.W.isinstance_int_data r h
theorem isi_bool : IsiOk "bool" PyData.isBool := fun _ _ _ _ _ _ _ _ _ r h => PySem.W.isinstance_bool_data r h
theorem isi_tuple : IsiOk "tuple" PyData.isTuple := fun _ _ _ _ _ _ _ _ _ r h => PySem.W.isinstance_tuple_data r h
theorem isi_list : IsiOk "list" PyData.isList := fun _ _ _ _ _ _ _ _ _ r h => PySem.W.isinstance_list_data r h
theorem isi_str : IsiOk "str" PyData.isStr := fun _ _ _ _ _ _ _ _ _ r h => PySem.W.isinstance_str_data r h
section
variable {X : Cx} {as : Option Addr} {E : XK} {m : Md} {e : Expr} {te : DE} {p p2 pos : Pos} {x : Str} {T : String} {f : D → Bool}
def rIsD (K : PySem.W.Frag) (T : String) (f : D → Bool) : List V → Hp → VK → Prop := fun xs H Q => ∃ v d, xs = [v, .ty T] ∧ Dp K H v d ∧ Q (.bl (f d)) H
theorem cr_isD (ok : IsiOk T f) : CallR X (.builtin "isinstance") (rIsD X.K T f) := by
  intro pins s σ H xs us Q I r h
  obtain ⟨v, d, rfl, dp, q⟩ := h
  obtain ⟨u1, u2, rfl, r1, r2⟩ := vals2 r
  obtain rfl : u2 = Value.type T := r2
  obtain ⟨ad, rd⟩ := Dp.reads I d v u1 dp r1
  exact ok _ _ _ _ _ _ _ _ _ rd fun tk _ => ⟨.bl (f d), H, I.tok tk, rfl, q⟩
theorem pd_isi (ok : IsiOk T f) (hv : bootBuiltins x = some (.type T)) (hg1 : Gl X "isinstance") (hm1 : X.mg "isinstance" = none) (hg2 : Gl X x) (hm2 : X.mg x = none) (ha : PD .rd X as E e te) (hn : x ≠ "__name__" := by decide) (hdb : (x == ("__debug__" : Str)) = false := by decide)
    (hs1 : starEach [e, .Name x p2] X.env = (false, eval e X.env) :: starEach [.Name x p2] X.env := by rfl) (hs2 : starEach [.Name x p2] X.env = (false, eval (.Name x p2) X.env) :: starEach [] X.env := by rfl) (hpl : (backTo pos (starEach [.Name x p2] X.env)).any (·.1) = false := by rfl) :
    PD m X as E (.Call (.Name "isinstance" p) [e, .Name x p2] [] pos) (dIsi f te) :=
  PD.by (pe_callB (cr_isD ok) hg1 hm1 PyProof.Rows.boot_isinstance (pa_cons ha.pe (pa_cons (pe_bltn hg2 hm2 hv (v := .ty T) rfl hn hdb) pa_nil hs2) hs1) (by decide) (by decide) hs1 hpl) fun σ H Q F0 H0 F ρ sp rl p => by
    refine ⟨F0, H0, F, ρ, sp, rl, PV.imp (bindQ (m' := .rd) p.po) fun v H1 ⟨F1, s, sp1, e1, g1, q1, r1, p2⟩ => ?_⟩
    cases z : s.d? with
    | none => rw [z] at p2; exact p2.elim
    | some d =>
      rw [z] at p2
      dsimp only at p2
      split at p2
      · rename_i hd
        exact ⟨v, d, rfl, (Rd.of z r1.1).dp g1.le hd, p2 _ F1 H1 g1 q1 (VM.of_dat (.bl _))⟩
      · exact p2.elim
end
/-! ### sum, set, sorted, repr -/
def gSum : List Sl → Option Sl
  | [s] => (itemsD s).bind fun ds => (ints? ds).map fun ns => .dat (.int ns.sum)
  | _ => none
def uniq (ns : List Int) : List Int := PyProof.Rows.firstMet (fun i => ns.getD i 0) ns.length
def gSet : List Sl → Option Sl
  | [s] => (lstD s).bind fun ds => (ints? ds).bind fun ns => if ns.length + 1 < scanBound then some (.os (uniq ns)) else none
  | _ => none
/-- all may be set in order -/
def sortable (ds : List D) : Bool := (ds.all fun a => ds.all fun b => PySem.W.alike a b) && ((ds.all fun d => match d with | .tuple (_ :: _) => true | _ => false) || ds.all fun d => match d with | .tuple _ => false | .none => false | _ => true) &&
  ds.all fun d => decide (d.depth ≤ 64) && !d.hasDict
def gSorted : List Sl → Option Sl
  | [s] => (lstD s).bind fun ds => if sortable ds = true ∧ ds.length ≤ sizeLine then some (.ol (ds.mergeSort (PySem.W.dataLe false id))) else none
  | _ => none
def isSq : D → Bool
  | .list _ => true
  | .tuple _ => true
  | _ => false
def gRepr : List Sl → Option Sl
  | [.dat (.int i)] => if i.natAbs.log2 < 1920 then some (.dat (.str (toString i))) else none
  | [.dat (.bool b)] => some (.dat (.str (if b then "True" else "False")))
  | [.dat .none] => some (.dat (.str "None"))
  | [.dat (.str y)] => if (PySem.reprText y).length ≤ sizeLine then some (.dat (.str (PySem.reprText y))) else none
  | [s] => s.d?.bind fun d => if isSq d = true ∧ d.showable = true ∧ d.hasDict = false ∧ d.depth ≤ 64 ∧ d.shown.length ≤ sizeLine then some (.dat (.str d.shown)) else none
  | _ => none
section
variable {X : Cx} {as : Option Addr}
theorem cr_sum (hc : X.calm = true) : CallR X (.builtin "sum") (rG X.K as gSum) := by
  intro pins s σ H xs us Q I r h
  obtain ⟨F, ss, z, l, pr, e, n, c⟩ := h
  unfold gSum at e
  split at e
  · obtain ⟨v, rfl, hv⟩ := pr1 pr
    obtain ⟨ds, e1, e⟩ := Option.bind_eq_some_iff.mp e
    obtain ⟨ns, e2, e⟩ := Option.map_eq_some_iff.mp e
    obtain ⟨p, vs, rfl, h1, rr⟩ := itemsD_v l e1 hv
    rw [ints?_eq e2] at rr
    obtain rfl := RpA.ints rr
    rcases h1 with h1 | h1
    · obtain ⟨its, rv, hl, _⟩ := I.tuple h1
      rw [Vals.ref1 r]
      have hi := Vals.ints rv
      obtain ⟨ys, hx⟩ := hi.allInts.items
      have hn : numsOf its.toArray.toList = ns := by rw [show its.toArray.toList = its from rfl, hi.numsOf]
      have ht : s.heap.IsTuple p its.toArray := hl
      rw [hx] at ht hn
      rw [nums_intItems] at hn
      refine PySem.W.ktm_sumG (I.ok.hd hc) ht fun h' tk t' hk => ⟨.int ns.sum, H, I.kept hk, ⟨t', ?_⟩, c.d (congrArg some e) l (.int _)⟩
      rw [preSum_eq, List.take_of_length_le (by simp), hn]
    · exact L2.cr_sum hc pins s σ H _ us Q I r ⟨p, ns, rfl, h1, c.d (congrArg some e) l (.int _)⟩
  · cases e
theorem uniq_any (ns : List Int) (k : Int) : (uniq ns).any (· == k) = true ↔ k ∈ ns := by
  unfold uniq
  rw [PyProof.Rows.firstMet_any]
  have : (List.range ns.length).map (fun i => ns.getD i 0) = ns := by
    apply List.ext_getElem?
    intro i
    rw [List.getElem?_map]
    by_cases h : i < ns.length
    · rw [List.getElem?_range h]; simp [h]
    · rw [List.getElem?_eq_none (by simpa using h), List.getElem?_eq_none (by simpa using h)]; rfl
  rw [this, List.any_eq_true]
  constructor
  · rintro ⟨x, h1, h2⟩
    rw [← eq_of_beq h2]; exact h1
  · intro h; exact ⟨k, h, by simp⟩
theorem cr_set (hc : X.calm = true) : CallR X (.type "set") (rG X.K as gSet) := by
  intro pins s σ H xs us Q I r h
  obtain ⟨F, ss, z, l, pr, e, n, c⟩ := h
  unfold gSet at e
  split at e
  · obtain ⟨v, rfl, hv⟩ := pr1 pr
    obtain ⟨ds, e1, e⟩ := Option.bind_eq_some_iff.mp e
    obtain ⟨ns, e2, e⟩ := Option.bind_eq_some_iff.mp e
    split at e
    · rename_i hz
      cases e
      obtain ⟨a, rfl, h1⟩ := ints_v l e1 e2 hv
      obtain ⟨its, rv, hl, _⟩ := I.list h1
      rw [Vals.ref1 r]
      have hi := Vals.ints rv
      have hlen : its.length = ns.length := hi.length
      have hsz : its.toArray.size = ns.length := by simp [hlen]
      refine PySem.call_set_list (ns := ns) (I.ok.hd hc) hl.isList hi (by rw [hsz]; exact hz) fun h' tk hS hk => ?_
      rw [hsz] at hS
      have kp : ∀ b o, s.heap.get? b = some o → h'.get? b = some o := fun b o q => hk b o (Heap.lt_size q) q
      have hfr := I.hok.fresh (Nat.le_refl s.heap.objs.size)
      refine ⟨.ref s.heap.objs.size, upd H s.heap.objs.size (.set (fun k' => (uniq ns).any (· == k')) (uniq ns).length), I.laid (t' := tk) kp (Nat.le_refl _) hS, rfl, ?_⟩
      refine c _ F _ (Gr.laid1 l hfr) (le_upd hfr) ⟨⟨_, _, _, rfl, fun q => n _ q hfr, l.none hfr, upd_same, fun k => ?_, rfl⟩, fun _ _ a e => ?_, fun _ e => nomatch e⟩
      · rw [List.any_eq_true]
        constructor
        · rintro ⟨x, h1, h2⟩
          rw [← eq_of_beq h2]; exact h1
        · intro h; exact ⟨k, h, by simp⟩
      · cases e; exact hfr
    · cases e
  · cases e
theorem sortable_spec {ds : List D} (h : sortable ds = true) : PySem.W.AllAlike ds ∧ PySem.W.Sortable ds ∧ ∀ d ∈ ds, d.depth ≤ 64 ∧ d.hasDict = false := by
  unfold sortable at h
  rw [Bool.and_eq_true, Bool.and_eq_true] at h
  obtain ⟨⟨h1, h2⟩, h3⟩ := h
  refine ⟨fun d hd d' hd' => ?_, ?_, fun d hd => ?_⟩
  · exact List.all_eq_true.mp (List.all_eq_true.mp h1 d hd) d' hd'
  · rw [Bool.or_eq_true] at h2
    rcases h2 with h2 | h2
    · left
      intro d hd
      have q := List.all_eq_true.mp h2 d hd
      split at q
      · exact ⟨_, _, rfl⟩
      · cases q
    · right
      intro d hd
      have q := List.all_eq_true.mp h2 d hd
      split at q
      · cases q
      · cases q
      · rename_i h1 h2
        exact ⟨h2, fun xs e => h1 xs e⟩
  · have q := List.all_eq_true.mp h3 d hd
    rw [Bool.and_eq_true] at q
    exact ⟨of_decide_eq_true q.1, by simpa using q.2⟩
theorem eachZip {α β γ : Type} {R : α → γ → Prop} : ∀ {xs : List α} {us : List γ} {ds : List β}, Paired R xs us → xs.length = ds.length → PySem.W.EachIs (fun u (b : α × β) => R b.1 u) us (xs.zip ds)
  | _, _, [], .nil, _ => .nil
  | _, _, [], .cons _ _, h => by simp at h
  | _, _, d :: ds, .nil, h => by simp at h
  | _, _, d :: ds, .cons r t, h => .cons r (eachZip t (by simpa using h))
theorem eachVals {xs : List V} {us : List Value} : PySem.W.EachIs (fun u (b : V × D) => RelV b.1 u) us zs → Vals (zs.map Prod.fst) us := fun h => by
  induction h with
  | nil => exact .nil
  | cons r t ih => exact .cons r ih
theorem RpA.zip {K : PySem.W.Frag} {F : Hp} : ∀ {vs : List V} {ds : List D}, RpA K F vs ds → ∀ b ∈ vs.zip ds, Rp K F b.1 b.2
  | _, _, .nil, b, h => by simp at h
  | _, _, .cons r t, b, h => by
    rw [List.zip_cons_cons] at h
    rcases List.mem_cons.mp h with rfl | h
    · exact r
    · exact RpA.zip t b h
theorem RpA.ofZip {K : PySem.W.Frag} {F : Hp} : ∀ {zs : List (V × D)}, (∀ b ∈ zs, Rp K F b.1 b.2) → RpA K F (zs.map Prod.fst) (zs.map Prod.snd)
  | [], _ => .nil
  | z :: zs, h => .cons (h z List.mem_cons_self) (RpA.ofZip fun b hb => h b (List.mem_cons_of_mem _ hb))
theorem cr_sorted (hu : X.A.units + 67 < cLine) : CallR X (.builtin "sorted") (rG X.K as gSorted) := by
  intro pins s σ H xs us Q I r h
  obtain ⟨F, ss, z, l, pr, e, n, c⟩ := h
  unfold gSorted at e
  split at e
  · obtain ⟨v, rfl, hv⟩ := pr1 pr
    obtain ⟨ds, e1, e⟩ := Option.bind_eq_some_iff.mp e
    split at e
    · rename_i hz
      obtain ⟨a, vs, rfl, h1, rr⟩ := lstD_v l e1 hv
      obtain ⟨its, rv, hl, hsz⟩ := I.list h1
      rw [Vals.ref1 r]
      obtain ⟨hal, hso, hdd⟩ := sortable_spec hz.1
      have hlen := rr.length
      have hmap : (vs.zip ds).map Prod.snd = ds := by rw [List.map_snd_zip]; omega
      have e0 := eachZip rv hlen
      have er : PySem.W.EachIs (fun u (b : V × D) => ∃ ad, Reads s.heap u b.2 ad) its (vs.zip ds) := by
        refine PySem.W.EachIs.of_zip e0.length fun p hp => ?_
        have hr : RelV p.2.1 p.1 := e0.zip p hp
        have hb : p.2 ∈ vs.zip ds := (List.of_mem_zip hp).2
        have hd : p.2.2 ∈ ds := (List.of_mem_zip hb).2
        exact Dp.reads I _ _ _ (Rp.dp _ _ ((rr.zip _ hb).mono l) (hdd _ hd).2) hr
      refine PySem.W.sorted_data (enc := Prod.snd) (R := fun u (b : V × D) => RelV b.1 u) hl.isList e0 er (by rw [hmap]; exact hal) (by rw [hmap]; exact hso) (by rw [List.length_zip]; omega) (fun b hb => ?_) fun out ho hE => ?_
      · have := (hdd _ (List.of_mem_zip hb).2).1
        omega
      · obtain ⟨ep, he'⟩ := PyProof.Rows.sortedAll_at s.heap its out.toArray
        have hrv := eachVals (xs := vs) hE
        have hperm := List.mergeSort_perm (vs.zip ds) (PySem.W.dataLe false Prod.snd)
        have hfst : (((vs.zip ds).mergeSort (PySem.W.dataLe false Prod.snd)).map Prod.fst).length ≤ sizeLine := by
          rw [List.length_map, hperm.length_eq, List.length_zip]; omega
        have hfr := I.hok.fresh (Nat.le_succ s.heap.objs.size)
        have hrp := RpA.ofZip (K := X.K) (F := F) (zs := (vs.zip ds).mergeSort (PySem.W.dataLe false Prod.snd)) fun b hb => rr.zip b (hperm.mem_iff.mp hb)
        have hsnd : ((vs.zip ds).mergeSort (PySem.W.dataLe false Prod.snd)).map Prod.snd = ds.mergeSort (PySem.W.dataLe false id) := by
          have q := List.map_mergeSort (f := Prod.snd) (l := vs.zip ds) (r := PySem.W.dataLe false Prod.snd) (s := PySem.W.dataLe false id) (fun a _ b _ => rfl)
          rw [q, hmap]
        rw [hsnd] at hrp
        exact ⟨.ref _, upd H (s.heap.objs.size + 1) (.lst _), I.laid (t' := s.toks) (fun _ _ => PyProof.Rows.sortedAll_old) (Nat.le_succ _) ⟨hfst, out, ep, hrv, he'⟩, rfl, c.L e l n hrp hfr⟩
    · cases e
  · cases e
theorem cr_repr (hg : X.A.guards = some []) (hu : X.A.units + 66 < cLine) : CallR X (.builtin "repr") (rG X.K as gRepr) := by
  intro pins s σ H xs us Q I r h
  obtain ⟨F, ss, z, l, pr, e, n, c⟩ := h
  unfold gRepr at e
  split at e
  · split at e
    · rename_i hz
      obtain ⟨v, rfl, hv⟩ := pr1 pr
      obtain rfl := (Rd.of (d := .int _) rfl hv).int
      obtain ⟨u, rfl, t, rfl⟩ := vals1 r
      exact PySem.P.repr_of_int hz ⟨.str _, H, I.tok _, ⟨_, rfl⟩, c.d e l (.str _)⟩
    · cases e
  · obtain ⟨v, rfl, hv⟩ := pr1 pr
    obtain rfl := (Rd.of (d := .bool _) rfl hv).bool
    obtain ⟨u, rfl, rx⟩ := vals1 r
    cases rx
    exact PySem.P.repr_of_bool ⟨.str _, H, I.tok _, ⟨_, rfl⟩, c.d e l (.str _)⟩
  · obtain ⟨v, rfl, hv⟩ := pr1 pr
    obtain rfl := (Rd.of (d := .none) rfl hv).non
    obtain ⟨u, rfl, rx⟩ := vals1 r
    cases rx
    exact PySem.P.repr_of_none ⟨.str _, H, I.tok _, ⟨_, rfl⟩, c.d e l (.str _)⟩
  · split at e
    · rename_i hz
      obtain ⟨v, rfl, hv⟩ := pr1 pr
      obtain rfl := (Rd.of (d := .str _) rfl hv).str
      obtain ⟨u, rfl, t, rfl⟩ := vals1 r
      exact PySem.P.repr_of_str ⟨.str _, H, I.tok _, ⟨_, rfl⟩, c.d e l (.str _)⟩ hz
    · cases e
  · obtain ⟨v, rfl, hv⟩ := pr1 pr
    obtain ⟨d, hd, e⟩ := Option.bind_eq_some_iff.mp e
    split at e
    · rename_i hz
      obtain ⟨u, rfl, rx⟩ := vals1 r
      obtain ⟨ad, rd⟩ := Dp.reads I d v u ((Rd.of hd hv).dp l hz.2.2.1) rx
      have isref : ∃ a, u = .ref a := by
        cases rd with
        | list => exact ⟨_, rfl⟩
        | tuple => exact ⟨_, rfl⟩
        | _ => first | exact ⟨_, rfl⟩ | exact absurd hz.1 (by simp [isSq])
      obtain ⟨a, rfl⟩ := isref
      refine PySem.repr_of_reads' rd hz.2.1 (fun q => absurd q (by rw [hz.2.2.1]; exact Bool.false_ne_true)) hg (by omega) (fun _ _ q => q) (fun h' u tk hk => ⟨.str _, H, I.kept hk, ⟨_, rfl⟩, c.d e l (.str _)⟩) hz.2.2.2.2
    · cases e
  · cases e
end
end Dn
/-! enumerate(t), t a tuple -/
namespace PySem
open Sem (wp)
theorem denMeetsEnum {t : Addr} {items : Array Value} :
    Meets (Builtin.«enumerate.__new__» ⟨[.type "enumerate", .ref t], []⟩) (fun _ R s => s.heap.IsTuple t items ∧
      R (.ok (.ret (.ref (s.heap.push { cls := .type "tuple_iterator", data := .fields #[.ref t, .int 0 0] }).objs.size))) { s with heap := (s.heap.push { cls := .type "tuple_iterator", data := .fields #[.ref t, .int 0 0] }).push { cls := .type "enumerate", data := .fields #[.none, .bool false, .ref s.heap.objs.size, rawInt 0, .none, .none] } }) :=
  .of_wp fun prog w A R s hh => by
    obtain ⟨hp, g, d, tk, os⟩ := s
    obtain ⟨h1, hR⟩ := hh
    have hsubE := sub_enumerate
    have q1 : ∀ {A' : Around} {E Q : Value → Shared → Prop}, Q (.ref hp.objs.size) ⟨hp.push { cls := .type "tuple_iterator", data := .fields #[.ref t, .int 0 0] }, g, d, tk, os⟩ → wpAny (model prog w) A' (pyIter (.ref t)) Q E ⟨hp, g, d, tk, os⟩ :=
      fun q => (begins_tuple t items).iter prog w _ _ ⟨hp, g, d, tk, os⟩ _ h1 q
    wp_walk using q1
    refine wpAny_stack_any fun stk => wpAny_pure ?_
    split
    · rename_i c0 _ _ _ _ _
      cases (c0 == Value.type "enumerate") <;> (wp_walk using q1; exact ⟨_, rfl, hR⟩)
    · wp_walk using q1
      exact ⟨_, rfl, hR⟩
section
variable {prog : Program} {w : World} {A : Around} {E : Value → Shared → Prop} {s : Shared}
theorem denCallEnum {t : Addr} {items : Array Value} {Q : Value → Shared → Prop} (ht : s.heap.IsTuple t items)
    (h : ∀ h', IsEnum h' (s.heap.objs.size + 1) s.heap.objs.size 0 .none → h'.IsTupleIter s.heap.objs.size t 0 → (∀ b o, s.heap.get? b = some o → h'.get? b = some o) → Q (.ref (s.heap.objs.size + 1)) { s with heap := h' }) :
    wpAny (model prog w) A (call (.type "enumerate") [.ref t]) Q E s := by
  refine callType_new F.called_enumerate (by decide) (F.typeCall_enumerate_1 _) (F.newCall_enumerate_1 _) (fun ob => F.args_object_init_2 ob _) F.entry_enumerate_new (denMeetsEnum (items := items)) ⟨ht, ?_⟩
  have hz : (s.heap.push { cls := .type "tuple_iterator", data := .fields #[.ref t, .int 0 0] }).objs.size = s.heap.objs.size + 1 := Heap.size_push ..
  show _ ∧ _
  rw [hz]
  have he : IsEnum ((s.heap.push { cls := .type "tuple_iterator", data := .fields #[.ref t, .int 0 0] }).push { cls := .type "enumerate", data := .fields #[.none, .bool false, .ref s.heap.objs.size, rawInt 0, .none, .none] }) (s.heap.objs.size + 1) s.heap.objs.size 0 .none := by
    have q := Heap.get?_push_size (s.heap.push { cls := .type "tuple_iterator", data := .fields #[.ref t, .int 0 0] }) (o := { cls := .type "enumerate", data := .fields #[.none, .bool false, .ref s.heap.objs.size, rawInt 0, .none, .none] }) rfl
    rw [hz] at q
    exact q
  exact ⟨⟨_, he, rfl⟩, h _ he ⟨_, Heap.get?_push_of_some _ (Heap.get?_push_size _ rfl), rfl, rfl⟩ fun b o x => Heap.get?_push_of_some _ (Heap.get?_push_of_some _ x)⟩
end
end PySem
namespace Dn
open PySem PySem.Spec PyProof.Rows L2
/-- the tuple at a, each item in a new pair -/
def IteT (K : PySem.W.Frag) (a : Addr) : It where
  go := fun i H => ∃ (xs : List V) (x : V), SqT K H a xs ∧ xs[i]? = some x
  yld := fun i H v H' => ∃ T x, v = .ref T ∧ H T = none ∧ H' = upd H T (.tup [.int (i : Nat), x]) ∧ ∀ xs, SqT K H a xs → xs[i]? = some x
  stop := fun i H => ∃ xs : List V, SqT K H a xs ∧ xs.length ≤ i
theorem turnEnumT {P : Program} {w : World} {K : PySem.W.Frag} {elts : List Expr} {kk : Nat} {tpos : Pos} (a e it : Addr) :
    Turn P w K (.Tuple elts kk tpos) (IteT K a) [e, it] e (fun i h => (∃ old, IsEnum h e it ((i : Nat) : Int) old) ∧ h.IsTupleIter it a i ∧ e ≠ it ∧ a ≠ it ∧ e ≠ a) where
  mem := List.mem_cons_self
  obj := fun i h st b hb => by
    obtain ⟨⟨old, he⟩, ⟨o, ho, hc, hd⟩, _⟩ := st
    rcases (by simpa using hb : b = e ∨ b = it) with rfl | rfl
    · exact ⟨_, he, fun v q => nomatch q⟩
    · exact ⟨o, ho, fun v q => by rw [hd] at q; cases q⟩
  keep := fun i h h' ⟨⟨old, he⟩, hi, hne⟩ k => ⟨⟨old, k e (by simp) _ he⟩, hi.at fun o q => k it (by simp) o q, hne⟩
  item := by
    intro X hP hw hK hc i pins s σ H E I hf ⟨⟨old, he⟩, hit, hne, hai, hea⟩ ⟨xs, x, hq, hx⟩
    subst hP hw hK
    obtain ⟨its, rv, p, hz⟩ := I.tuple hq
    obtain ⟨u, hu, ru⟩ := rv.get hx
    have hel : e < s.heap.objs.size := Heap.lt_size he
    have hil : it < s.heap.objs.size := by obtain ⟨_, q, _⟩ := hit; exact Heap.lt_size q
    have hlt : i < its.toArray.size := by
      have := List.getElem?_eq_some_iff.mp hu
      simpa using this.1
    have hef : e ∉ [it, a] := by simp [hne, hea]
    refine wpAny_pyNext_enum_itemD (Draws.tuple (A := X.A.in1) (I.ok.hd hc) it a hai its.toArray) he ⟨hit, p⟩ hlt hne hef fun y h' tk hy ho st' hT hsz hk => ?_
    obtain rfl : y = u := by
      have hy' : its[i]? = some y := by simpa using hy
      rw [hu] at hy'
      exact (Option.some.inj hy').symm
    refine ⟨_, rfl, wpAny_letOwnedTupleGo_enum (s := { s with heap := h', toks := tk + 1 }) ho fun h'' he' sb => ?_⟩
    have hT2 : h''.get? s.heap.objs.size = some { cls := .type "tuple", data := .seq #[.int i tk, y] } := (sb.2 _ (Nat.ne_of_gt hel)).trans hT
    have new : ObjOk X.prog X.w (upd H s.heap.objs.size (.tup [.int (i : Nat), x])) h'' s.heap.objs.size (.tup [.int (i : Nat), x]) :=
      ⟨show 2 ≤ sizeLine by decide, [.int i tk, y], .cons ⟨_, rfl⟩ (.cons ru .nil), ⟨_, hT2, rfl, _, rfl⟩⟩
    have I1 : Inv X pins σ (upd H s.heap.objs.size (.tup [.int (i : Nat), x])) { s with heap := h'', toks := tk + 1 } :=
      I.turnedNew (ch := [e, it]) (fun b ob hb q => (sb.2 b (fun z => hb (by simp [z]))).trans (hk b ob (fun z => hb (by simp [z])) (fun z => hb (by simp [z])) q)) hf (Nat.le_refl _) new
    refine ⟨.ref s.heap.objs.size, _, I1, rfl, ⟨_, x, rfl, I.hok.fresh (Nat.le_refl _), rfl, fun ys hy => by rw [I.tuple_inj hy hq]; exact hx⟩, ⟨⟨y, ?_⟩, st'.1.at fun o q => (sb.2 it (Ne.symm hne)).trans q, hne, hai, hea⟩, fun b hb => ?_⟩
    · rw [show ((i + 1 : Nat) : Int) = (i : Int) + 1 by omega]
      exact he'
    · have hb' : b < s.heap.objs.size := by
        rcases (by simpa using hb : b = e ∨ b = it) with z | z <;> rw [z] <;> assumption
      rw [upd_ne (Nat.ne_of_lt hb')]
      exact (hf b hb).1
  done := by
    intro X hP hw hK hc i pins s σ H E I hf ⟨⟨old, he⟩, hit, hne, hai, hea⟩ ⟨xs, hq, hx⟩
    subst hP hw hK
    obtain ⟨its, rv, p, hz⟩ := I.tuple hq
    have hl := rv.length
    obtain ⟨f0, f1, f2, f3, f4, f5⟩ := hf it (by simp)
    have hT : s.TypeIs (.ref e) "enumerate" := ⟨_, he, rfl⟩
    unfold pyNext
    refine wpAny_bind (wpAny_attempt (wpAny_callSpecial?_slot (name := Str.ofString "__next__") hT F.slot_enumerate_next
      (wpAny_call_entry F.slot_enumerate_next hT F.entry_enumerate_next ?_ (F.args_enumerate_next_1 _))))
    show wpAny _ _ (field (.ref e) 2 >>= _) _ _ _
    refine wpAny_bind (wpAny_field he rfl (x := .ref it) rfl ?_)
    refine wpAny_bind (wpAny_nextOf_tuple_end (I.ok.hd hc) hit p (by simp; omega) fun h' y he' hx' => ?_)
    obtain ⟨o, ho, hco⟩ := hx'
    refine wpAny_bind (wpAny_isInstance (T := "StopIteration") (b := true) ⟨o, ho, hco⟩ isSubtype_stop ?_)
    exact wpAny_pure ⟨rfl, I.turned (t' := s.toks) (fun b o hb q => he' b o hb q) f0 f1 f3 f4 f5⟩
  self := fun A i s Q E ⟨⟨_, he⟩, _⟩ h => wpAny_pyIter_enum he h
def iEnumT (K : PySem.W.Frag) (ta : TA) : TI := fun σ H R => ta σ H fun vs H1 => ∃ a xs, vs = [.ref a] ∧ SqT K H1 a xs ∧ R (IteT K a) H1
theorem piEnumT {X : Cx} {e : Expr} {ta : TA} {p pos tpos : Pos} {elts : List Expr} {kk : Nat} (hg : Gl X "enumerate") (hm : X.mg "enumerate" = none) (ha : PA X [e] ta) (hs : starEach [e] X.env = [(false, eval e X.env)] := by rfl) :
    PI X (.Tuple elts kk tpos) (.Call (.Name "enumerate" p) [e] [] pos) (iEnumT X.K ta) := by
  refine ⟨fun pins s σ H R I h => ?_⟩
  refine Call_ (ld_blt I hg hm boot_enumerate (PyProof.Rows.callWith_type1 (thn (ha.run pos pins s σ H _ I h) fun us s1 ⟨vs, H1, I1, r1, a, xs, ex, hq, q⟩ => ?_) hs rfl))
  subst ex
  obtain ⟨u0, rfl, rfl⟩ := vals1 r1
  obtain ⟨its, rv, p', hz⟩ := I1.tuple hq
  have hal : a < s1.heap.objs.size := p'.lt
  refine denCallEnum p' fun h' he hit hk => wpAny_pyIter_enum he ?_
  have I2 : Inv X pins σ H1 { s1 with heap := h' } := I1.kept (t' := s1.toks) hk
  refine ⟨s1.heap.objs.size + 1, [s1.heap.objs.size + 1, s1.heap.objs.size], _, _, H1, rfl, I2, turnEnumT a (s1.heap.objs.size + 1) s1.heap.objs.size, ⟨⟨.none, he⟩, hit, Nat.succ_ne_self _, Nat.ne_of_lt hal, Ne.symm (Nat.ne_of_lt (Nat.lt_succ_of_lt hal))⟩, fun b hb => ?_, q⟩
  have hle : s1.heap.objs.size ≤ b := by
    rcases (by simpa using hb : b = s1.heap.objs.size + 1 ∨ b = s1.heap.objs.size) with z | z <;> rw [z] <;> omega
  exact I1.fpOk hle (I1.hok.fresh hle)
/-- a range held in a name, walked -/
def iRgV (tl : TE) : TI := fun σ H R => tl σ H fun x H1 => ∃ a lo hi, x = .ref a ∧ H1 a = some (.rng lo hi) ∧ (-(2 ^ 62) ≤ lo ∧ lo < 2 ^ 62 ∧ -(2 ^ 62) ≤ hi ∧ hi < 2 ^ 62) ∧ R (Itr lo (hi - lo).toNat) H1
theorem piRgV {X : Cx} {tg l : Expr} {tl : TE} (hl : PE X l tl) : PI X tg l (iRgV tl) := by
  refine ⟨fun pins s σ H R I h => ?_⟩
  refine thn (hl.run pins s σ H _ I h) fun v s1 ⟨x, H1, I1, r1, a, lo, hi, ex, hq, ⟨h1, h2, h3, h4⟩, q⟩ => ?_
  subst ex
  cases r1
  obtain ⟨t, u, w1, ho⟩ := (show ObjOk X.prog X.w H1 s1.heap a (.rng lo hi) from I1.hok a _ hq)
  refine wpAny_pyIter_range ho (small_one h1 h2 h3 h4) ?_
  refine ⟨_, [s1.heap.objs.size], _, _, H1, rfl, I1.kept (t' := s1.toks) fun b o e => Heap.get?_push_of_some _ e, turn_range _ lo (hi - lo).toNat, ?_, fun b hb => ?_, q⟩
  · have e1 : lo + ((0 : Nat) : Int) * 1 = lo := by simp
    have e2 : (((hi - lo).toNat : Nat) : Int) - ((0 : Nat) : Int) = Builtin.Range.rangeSize lo hi 1 := by rw [rangeSize_one]; split <;> omega
    show IsRangeIter _ _ (lo + ((0 : Nat) : Int) * 1) ((((hi - lo).toNat : Nat) : Int) - ((0 : Nat) : Int)) 1
    rw [e1, e2]
    exact Heap.get?_push_size _ rfl
  · obtain rfl : b = s1.heap.objs.size := by simpa using hb
    exact I1.fpOk (Nat.le_refl _) (I1.hok.fresh (Nat.le_refl _))
end Dn
namespace Dn
open PySem PySem.Spec PyProof.Rows L2 RZ RT

/-! ### what is walked -/
structure DIs (K : PySem.W.Frag) (as : Option Addr) (J : It) (P : Hp → Hp → Prop) (ys : List D) : Prop where
  go : ∀ F H, P F H → Le F H → ∀ i, i < ys.length → J.go i H
  yld : ∀ F H i x H' d, P F H → Le F H → J.yld i H x H' → ys[i]? = some d → ∃ F', Gr as F H F' H' ∧ Le H H' ∧ Rp K F' x d
  stop : ∀ F H, P F H → Le F H → ∀ i, ys.length ≤ i → J.stop i H
theorem DIs.imp {K : PySem.W.Frag} {as : Option Addr} {J : It} {P P' : Hp → Hp → Prop} {ys : List D} (h : DIs K as J P ys) (i : ∀ F H, P' F H → Le F H → P F H) : DIs K as J P' ys :=
  ⟨fun F H p l => h.go F H (i F H p l) l, fun F H j x H' d p l => h.yld F H j x H' d (i F H p l) l, fun F H p l => h.stop F H (i F H p l) l⟩
/-- v reads as d -/
abbrev Rs (K : PySem.W.Frag) (as : Option Addr) (v : V) (d : D) : Hp → Hp → Prop := fun F H => Rd K as F H v d
def rngD (lo : Int) (n : Nat) : List D := (List.range n).map fun i : Nat => .int (lo + (i : Int))
def rngC (lo c : Int) (n : Nat) : List D := (List.range n).map fun i : Nat => .int (lo + (i : Int) * c)
def enumD (ds : List D) : List D := ds.zipIdx.map fun p => .tuple [.int (p.2 : Nat), p.1]
def zipD (ds es : List D) : List D := List.zipWith (fun a b => .tuple [a, b]) ds es
section
variable {K : PySem.W.Frag} {as : Option Addr} {a b : Addr} {ds es : List D}
theorem get_lt {α : Type} {l : List α} {i : Nat} (h : i < l.length) : ∃ x, l[i]? = some x := ⟨l[i], List.getElem?_eq_getElem h⟩
theorem dis_list : DIs K as (Itl K a) (Rs K as (.ref a) (.list ds)) ds where
  go := fun F H p l i hi => by
    obtain ⟨a', vs, e, h, r⟩ := p.list l
    cases e
    obtain ⟨x, hx⟩ := get_lt (l := vs) (i := i) (by rw [r.length]; exact hi)
    exact ⟨vs, x, h, hx⟩
  yld := fun F H i x H' d p l ⟨e, y⟩ hd => by
    obtain ⟨a', vs, e', h, r⟩ := p.list l
    cases e'
    subst e
    obtain ⟨v, h1, h2⟩ := r.get' hd
    have h3 := y vs h
    rw [h1] at h3; cases h3
    exact ⟨F, Gr.refl l, Le.refl _, h2⟩
  stop := fun F H p l i hi => by
    obtain ⟨a', vs, e, h, r⟩ := p.list l
    cases e
    exact ⟨vs, h, by rw [r.length]; exact hi⟩
theorem dis_tup : DIs K as (Itt K a) (Rs K as (.ref a) (.tuple ds)) ds where
  go := fun F H p l i hi => by
    obtain ⟨a', vs, e, h, r⟩ := p.tup l
    cases e
    obtain ⟨x, hx⟩ := get_lt (l := vs) (i := i) (by rw [r.length]; exact hi)
    exact ⟨vs, x, h, hx⟩
  yld := fun F H i x H' d p l ⟨e, y⟩ hd => by
    obtain ⟨a', vs, e', h, r⟩ := p.tup l
    cases e'
    subst e
    obtain ⟨v, h1, h2⟩ := r.get' hd
    have h3 := y vs h
    rw [h1] at h3; cases h3
    exact ⟨F, Gr.refl l, Le.refl _, h2⟩
  stop := fun F H p l i hi => by
    obtain ⟨a', vs, e, h, r⟩ := p.tup l
    cases e
    exact ⟨vs, h, by rw [r.length]; exact hi⟩
theorem dis_rng {lo : Int} {n : Nat} : DIs K as (Itr lo n) (fun _ _ => True) (rngD lo n) where
  go := fun F H p l i hi => show i < n by simpa [rngD] using hi
  yld := fun F H i x H' d p l ⟨e, y⟩ hd => by
    subst e y
    have hi : i < n := by
      have := (List.getElem?_eq_some_iff.mp hd).1
      simpa [rngD] using this
    unfold rngD at hd
    rw [List.getElem?_map, List.getElem?_range hi] at hd
    cases hd
    exact ⟨F, Gr.refl l, Le.refl _, .int _⟩
  stop := fun F H p l i hi => show n ≤ i by simpa [rngD] using hi
theorem dis_rngC {lo c : Int} {n : Nat} : DIs K as (Itc lo c n) (fun _ _ => True) (rngC lo c n) where
  go := fun F H p l i hi => show i < n by simpa [rngC] using hi
  yld := fun F H i x H' d p l ⟨e, y⟩ hd => by
    subst e y
    have hi : i < n := by
      have := (List.getElem?_eq_some_iff.mp hd).1
      simpa [rngC] using this
    unfold rngC at hd
    rw [List.getElem?_map, List.getElem?_range hi] at hd
    cases hd
    exact ⟨F, Gr.refl l, Le.refl _, .int _⟩
  stop := fun F H p l i hi => show n ≤ i by simpa [rngC] using hi
theorem enumD_get {i : Nat} {d : D} (h : (enumD ds)[i]? = some d) : ∃ d0, ds[i]? = some d0 ∧ d = .tuple [.int (i : Nat), d0] := by
  unfold enumD at h
  rw [List.getElem?_map, List.getElem?_zipIdx] at h
  cases q : ds[i]? with
  | none => rw [q] at h; cases h
  | some d0 => rw [q] at h; cases h; exact ⟨d0, rfl, by simp⟩
theorem enumD_len : (enumD ds).length = ds.length := by simp [enumD]
/-- a new pair -/
theorem pair_rp {F H : Hp} {T : Addr} {x y : V} {d e : D} (l : Le F H) (hT : H T = none) (hx : Rp K F x d) (hy : Rp K F y e) :
    Gr as F H (upd F T (.tup [x, y])) (upd H T (.tup [x, y])) ∧ Le H (upd H T (.tup [x, y])) ∧ Rp K (upd F T (.tup [x, y])) (.ref T) (.tuple [d, e]) :=
  have up := le_upd (o := .tup [x, y]) (l.none hT)
  ⟨Gr.laid l hT, le_upd hT, .tup (.inl (.inl upd_same)) (.cons (hx.mono up) (.cons (hy.mono up) .nil))⟩
theorem dis_enum : DIs K as (Ite K a) (Rs K as (.ref a) (.list ds)) (enumD ds) where
  go := fun F H p l i hi => by
    obtain ⟨a', vs, e, h, r⟩ := p.list l
    cases e
    obtain ⟨x, hx⟩ := get_lt (l := vs) (i := i) (by rw [r.length, ← enumD_len]; exact hi)
    exact ⟨vs, x, h, hx⟩
  yld := fun F H i x H' d p l ⟨T, x0, e, hT, e2, y⟩ hd => by
    obtain ⟨a', vs, e', h, r⟩ := p.list l
    cases e'
    subst e e2
    obtain ⟨d0, hd0, rfl⟩ := enumD_get hd
    obtain ⟨v, h1, h2⟩ := r.get' hd0
    have h3 := y vs h
    rw [h1] at h3; cases h3
    exact ⟨_, pair_rp l hT (.int _) h2⟩
  stop := fun F H p l i hi => by
    obtain ⟨a', vs, e, h, r⟩ := p.list l
    cases e
    exact ⟨vs, h, by rw [r.length, ← enumD_len]; exact hi⟩
theorem dis_enumT : DIs K as (IteT K a) (Rs K as (.ref a) (.tuple ds)) (enumD ds) where
  go := fun F H p l i hi => by
    obtain ⟨a', vs, e, h, r⟩ := p.tup l
    cases e
    obtain ⟨x, hx⟩ := get_lt (l := vs) (i := i) (by rw [r.length, ← enumD_len]; exact hi)
    exact ⟨vs, x, h, hx⟩
  yld := fun F H i x H' d p l ⟨T, x0, e, hT, e2, y⟩ hd => by
    obtain ⟨a', vs, e', h, r⟩ := p.tup l
    cases e'
    subst e e2
    obtain ⟨d0, hd0, rfl⟩ := enumD_get hd
    obtain ⟨v, h1, h2⟩ := r.get' hd0
    have h3 := y vs h
    rw [h1] at h3; cases h3
    exact ⟨_, pair_rp l hT (.int _) h2⟩
  stop := fun F H p l i hi => by
    obtain ⟨a', vs, e, h, r⟩ := p.tup l
    cases e
    exact ⟨vs, h, by rw [r.length, ← enumD_len]; exact hi⟩
theorem zipD_get {i : Nat} {d : D} (h : (zipD ds es)[i]? = some d) : ∃ d0 e0, ds[i]? = some d0 ∧ es[i]? = some e0 ∧ d = .tuple [d0, e0] := by
  unfold zipD at h
  rw [List.getElem?_zipWith] at h
  cases q : ds[i]? with
  | none => rw [q] at h; simp at h
  | some d0 =>
    cases q2 : es[i]? with
    | none => rw [q, q2] at h; simp at h
    | some e0 => rw [q, q2] at h; cases h; exact ⟨d0, e0, rfl, rfl, rfl⟩
theorem dis_zip : DIs K as (Itz K a b) (fun F H => Rd K as F H (.ref a) (.list ds) ∧ Rd K as F H (.ref b) (.list es)) (zipD ds es) where
  go := fun F H ⟨p1, p2⟩ l i hi => by
    obtain ⟨_, vs, e, h, r⟩ := p1.list l
    cases e
    obtain ⟨_, ws, e, h', r'⟩ := p2.list l
    cases e
    have hi' : i < min ds.length es.length := by simpa [zipD] using hi
    obtain ⟨x, hx⟩ := get_lt (l := vs) (i := i) (by rw [r.length]; omega)
    obtain ⟨y, hy⟩ := get_lt (l := ws) (i := i) (by rw [r'.length]; omega)
    exact ⟨vs, ws, x, y, h, h', hx, hy⟩
  yld := fun F H i x H' d ⟨p1, p2⟩ l ⟨T, x0, y0, e, hT, e2, y1, y2⟩ hd => by
    obtain ⟨_, vs, e', h, r⟩ := p1.list l
    cases e'
    obtain ⟨_, ws, e', h', r'⟩ := p2.list l
    cases e'
    subst e e2
    obtain ⟨d0, e0, hd0, he0, rfl⟩ := zipD_get hd
    obtain ⟨v, k1, k2⟩ := r.get' hd0
    obtain ⟨w, k3, k4⟩ := r'.get' he0
    have h3 := y1 vs h
    have h4 := y2 ws h'
    rw [k1] at h3; cases h3
    rw [k3] at h4; cases h4
    exact ⟨_, pair_rp l hT k2 k4⟩
  stop := fun F H ⟨p1, p2⟩ l i hi => by
    obtain ⟨_, vs, e, h, r⟩ := p1.list l
    cases e
    obtain ⟨_, ws, e, h', r'⟩ := p2.list l
    cases e
    have hi' : min ds.length es.length ≤ i := by simpa [zipD] using hi
    refine ⟨vs, ws, h, h', ?_⟩
    rw [r.length, r'.length]
    omega
theorem dis_zipT : DIs K as (ItzT K a b) (fun F H => Rd K as F H (.ref a) (.tuple ds) ∧ Rd K as F H (.ref b) (.tuple es)) (zipD ds es) where
  go := fun F H ⟨p1, p2⟩ l i hi => by
    obtain ⟨_, vs, e, h, r⟩ := p1.tup l
    cases e
    obtain ⟨_, ws, e, h', r'⟩ := p2.tup l
    cases e
    have hi' : i < min ds.length es.length := by simpa [zipD] using hi
    obtain ⟨x, hx⟩ := get_lt (l := vs) (i := i) (by rw [r.length]; omega)
    obtain ⟨y, hy⟩ := get_lt (l := ws) (i := i) (by rw [r'.length]; omega)
    exact ⟨vs, ws, x, y, h, h', hx, hy⟩
  yld := fun F H i x H' d ⟨p1, p2⟩ l ⟨T, x0, y0, e, hT, e2, y1, y2⟩ hd => by
    obtain ⟨_, vs, e', h, r⟩ := p1.tup l
    cases e'
    obtain ⟨_, ws, e', h', r'⟩ := p2.tup l
    cases e'
    subst e e2
    obtain ⟨d0, e0, hd0, he0, rfl⟩ := zipD_get hd
    obtain ⟨v, k1, k2⟩ := r.get' hd0
    obtain ⟨w, k3, k4⟩ := r'.get' he0
    have h3 := y1 vs h
    have h4 := y2 ws h'
    rw [k1] at h3; cases h3
    rw [k3] at h4; cases h4
    exact ⟨_, pair_rp l hT k2 k4⟩
  stop := fun F H ⟨p1, p2⟩ l i hi => by
    obtain ⟨_, vs, e, h, r⟩ := p1.tup l
    cases e
    obtain ⟨_, ws, e, h', r'⟩ := p2.tup l
    cases e
    have hi' : min ds.length es.length ≤ i := by simpa [zipD] using hi
    refine ⟨vs, ws, h, h', ?_⟩
    rw [r.length, r'.length]
    omega
theorem rev_get {α : Type} {l : List α} {i : Nat} {x : α} (h : l.reverse[i]? = some x) : i < l.length ∧ l[l.length - 1 - i]? = some x := by
  have hi : i < l.length := by simpa using (List.getElem?_eq_some_iff.mp h).1
  rw [List.getElem?_reverse hi] at h
  exact ⟨hi, h⟩
theorem dis_rev {n : Nat} (hn : n = ds.length) : DIs K as (Itv K a n) (Rs K as (.ref a) (.list ds)) ds.reverse where
  go := fun F H p l i hi => by
    obtain ⟨a', vs, e, h, r⟩ := p.list l
    cases e
    have hi' : i < n := by rw [hn]; simpa using hi
    obtain ⟨x, hx⟩ := get_lt (l := vs) (i := n - 1 - i) (by rw [r.length]; omega)
    exact ⟨hi', vs, x, h, hx⟩
  yld := fun F H i x H' d p l ⟨e, y⟩ hd => by
    obtain ⟨a', vs, e', h, r⟩ := p.list l
    cases e'
    subst e
    obtain ⟨hi, hd⟩ := rev_get hd
    rw [← hn] at hd
    obtain ⟨v, h1, h2⟩ := r.get' hd
    have h3 := y vs h
    rw [h1] at h3; cases h3
    exact ⟨F, Gr.refl l, Le.refl _, h2⟩
  stop := fun F H p l i hi => by
    show n ≤ i
    rw [hn]
    simpa using hi
theorem dis_revT {n : Nat} (hn : n = ds.length) : DIs K as (ItvT K a n) (Rs K as (.ref a) (.tuple ds)) ds.reverse where
  go := fun F H p l i hi => by
    obtain ⟨a', vs, e, h, r⟩ := p.tup l
    cases e
    have hi' : i < n := by rw [hn]; simpa using hi
    obtain ⟨x, hx⟩ := get_lt (l := vs) (i := n - 1 - i) (by rw [r.length]; omega)
    exact ⟨hi', vs, x, h, hx⟩
  yld := fun F H i x H' d p l ⟨e, y⟩ hd => by
    obtain ⟨a', vs, e', h, r⟩ := p.tup l
    cases e'
    subst e
    obtain ⟨hi, hd⟩ := rev_get hd
    rw [← hn] at hd
    obtain ⟨v, h1, h2⟩ := r.get' hd
    have h3 := y vs h
    rw [h1] at h3; cases h3
    exact ⟨F, Gr.refl l, Le.refl _, h2⟩
  stop := fun F H p l i hi => by
    show n ≤ i
    rw [hn]
    simpa using hi
end
/-! ### iterables: b: read alone (a comprehension's); else: kept as data (a loop's) -/
abbrev DI := Env_ → SpO → Out (List D)
def Kp (b : Bool) (as : Option Addr) (F' H' : Hp) : Hp → Hp → Prop := fun F2 H2 => if b = true then Gr as F' H' F2 H2 else Le F' F2
def mB (b : Bool) : Md := if b = true then .rd else .vl
def PVi (b : Bool) (K : PySem.W.Frag) (as : Option Addr) (mg : Str → Option Value) (E : XK) (F H : Hp) (R : It → Hp → Prop) : Out (List D) → Prop :=
  PO K as mg E F H fun ys sp => ∀ J F' H', Gr as F H F' H' → SpAt as sp H' → DIs K as J (Kp b as F' H') ys → R J H'
def TDi (b : Bool) (K : PySem.W.Frag) (as : Option Addr) (mg : Str → Option Value) (E : XK) (t : DI) : TI := fun σ H R =>
  ∃ F0 H0 F ρ sp, Rl K as F0 H0 F H sp ρ σ ∧ PVi b K as mg E F H R (t ρ sp)
structure PDi (b : Bool) (X : Cx) (as : Option Addr) (E : XK) (tg iter : Expr) (t : DI) : Prop where
  pi : PI X tg iter (TDi b X.K as X.mg E t)
theorem PI.or {X : Cx} {tg iter : Expr} {w1 w2 : TI} (h1 : PI X tg iter w1) (h2 : PI X tg iter w2) : PI X tg iter (fun σ H R => w1 σ H R ∨ w2 σ H R) :=
  ⟨fun pins s σ H R I q => q.elim (h1.run pins s σ H R I) (h2.run pins s σ H R I)⟩
theorem PI.imp {X : Cx} {tg iter : Expr} {w1 w2 : TI} (h1 : PI X tg iter w1) (h : ∀ σ H R, w2 σ H R → w1 σ H R) : PI X tg iter w2 := ⟨fun pins s σ H R I q => h1.run pins s σ H R I (h _ _ _ q)⟩
section
variable {K : PySem.W.Frag} {as : Option Addr} {F0 H0 F H : Hp} {s : Sl} {v : V} {d : D} {b : Bool}
/-- what was read stays as it is -/
theorem hold (g : Gr as F0 H0 F H) (h : VM (mB b) K as H0 F H s v) (e : s.d? = some d) : ∃ F', Gr as F0 H0 F' H ∧ Le F F' ∧ ∀ F2 H2, Kp b as F' H F2 H2 → Le F2 H2 → Rd K as F2 H2 v d := by
  cases b with
  | true => exact ⟨F, g, Le.refl _, fun F2 H2 k _ => Rd.of e (h.1.gr (by simpa [Kp] using k))⟩
  | false =>
    refine ⟨fz (fun a => s.own = true ∧ v = .ref a) F H, g.fz fun a q => h.2.1 (by intro e; cases e) q.1 a q.2, fz_sub g.le, fun F2 H2 k l => ?_⟩
    have r : Rp K (fz (fun a => s.own = true ∧ v = .ref a) F H) v d := VR.fz g.le h.1 e fun o a e2 => ⟨o, e2⟩
    exact ⟨.dat d, rfl, r.mono (by simpa [Kp] using k)⟩
theorem Kp.mono {b : Bool} {F1 F2 H1 H2 : Hp} (g : Gr as F1 H1 F2 H2) {F3 H3 : Hp} (k : Kp b as F2 H2 F3 H3) : Kp b as F1 H1 F3 H3 := by
  cases b with
  | true => exact g.trans k
  | false => exact g.sub.trans k
end
def optL (o : Option (List D)) (sp : SpO) : Out (List D) := match o with
  | some l => .ok l sp
  | none => .bad
def rgOk (lo hi : Int) : Bool := decide (lo.natAbs < 4611686018427387904) && decide (hi.natAbs < 4611686018427387904)
def seqD : Sl → Option (List D)
  | .dat (.list xs) => some xs
  | .dat (.tuple xs) => some xs
  | .ol xs => some xs
  | .rg lo hi => if rgOk lo hi = true then some (rngD lo (hi - lo).toNat) else none
  | _ => none
def dItems (te : DE) : DI := fun ρ sp => (te ρ sp).bind fun s sp1 => optL (seqD s) sp1
def dEnum (te : DE) : DI := fun ρ sp => (te ρ sp).bind fun s sp1 => optL ((itemsD s).map enumD) sp1
def dRevd (te : DE) : DI := fun ρ sp => (te ρ sp).bind fun s sp1 => optL ((itemsD s).map List.reverse) sp1
def zipS (s t : Sl) : Option (List D) := s.d?.bind fun d => t.d?.bind fun e => match d, e with
  | .list xs, .list ys => some (zipD xs ys)
  | .tuple xs, .tuple ys => some (zipD xs ys)
  | _, _ => none
def dZip (te tf : DE) : DI := fun ρ sp => (te ρ sp).bind fun s sp1 => (tf ρ sp1).bind fun t sp2 => optL (zipS s t) sp2
def rgS1 : List Sl → Option (List D)
  | [.dat (.int j)] => if rgOk 0 j = true then some (rngD 0 j.toNat) else none
  | _ => none
def rgS2 : List Sl → Option (List D)
  | [.dat (.int i), .dat (.int j)] => if rgOk i j = true then some (rngD i (j - i).toNat) else none
  | _ => none
def rgS3 : List Sl → Option (List D)
  | [.dat (.int i), .dat (.int j), .dat (.int c)] => if (decide (c ≠ 0) && decide (c.natAbs < 1073741824) && Builtin.Range.small i j c && decide (0 ≤ Builtin.Range.rangeSize i j c)) = true then some (rngC i c (Builtin.Range.rangeSize i j c).toNat) else none
  | _ => none
def dRange1 (ta : DA) : DI := fun ρ sp => (ta ρ sp).bind fun ss sp1 => optL (rgS1 ss) sp1
def dRange2 (ta : DA) : DI := fun ρ sp => (ta ρ sp).bind fun ss sp1 => optL (rgS2 ss) sp1
def dRange3 (ta : DA) : DI := fun ρ sp => (ta ρ sp).bind fun ss sp1 => optL (rgS3 ss) sp1
theorem rgOk_spec {lo hi : Int} (h : rgOk lo hi = true) : -(2 ^ 62) ≤ lo ∧ lo < 2 ^ 62 ∧ -(2 ^ 62) ≤ hi ∧ hi < 2 ^ 62 := by
  unfold rgOk at h
  simp only [Bool.and_eq_true, decide_eq_true_eq] at h
  omega
section
variable {X : Cx} {as : Option Addr} {E : XK} {b : Bool} {tg e e2 : Expr} {te tf : DE} {ta : DA} {p pos tpos : Pos} {elts : List Expr} {kk : Nat}
theorem TD_exc {m : Md} {σ : L2.St} {H : Hp} {Q : VK} {F0 H0 F : Hp} {ρ : Env_} {sp sp' : SpO} {x : Ex} (rl : Rl X.K as F0 H0 F H sp ρ σ) (h : te ρ sp = .exc x sp') (p : ∀ c d F' H', Gr as F H F' H' → SpAt as sp' H' → ExR X.K as X.mg x c d F' H' → E c d H') :
    TD m X.K as X.mg E te σ H Q := ⟨F0, H0, F, ρ, sp, rl, by rw [h]; exact p⟩
theorem pdi_items (ha : PD (mB b) X as E e te) : PDi b X as E tg e (dItems te) := by
  refine ⟨PI.imp (PI.or (pi_list ha.pe) (PI.or (pi_tup ha.pe) (piRgV ha.pe))) fun σ H R ⟨F0, H0, F, ρ, sp, rl, p⟩ => ?_⟩
  unfold dItems at p
  cases h : te ρ sp with
  | bad => rw [h] at p; exact p.elim
  | exc x sp1 => rw [h] at p; exact .inl (TD_exc rl h p)
  | ok s sp1 =>
    rw [h] at p
    rw [Out.bind_ok] at p
    have lst : ∀ {ds : List D}, s.d? = some (.list ds) → PVi b X.K as X.mg E F H R (.ok ds sp1) → iList X.K (TD (mB b) X.K as X.mg E te) σ H R := fun hd p => by
      refine ⟨F0, H0, F, ρ, sp, rl, ?_⟩
      rw [h]
      intro v F' H' g q vm
      obtain ⟨F2, g2, l2, k⟩ := hold g vm hd
      obtain ⟨a, vs, ev, hs, _⟩ := (Rd.of hd vm.1).list g.le
      subst ev
      exact ⟨a, rfl, ⟨vs, hs⟩, p _ F2 H' g2 q (dis_list.imp k)⟩
    cases s with
    | ol xs => exact .inl (lst rfl p)
    | rg lo hi =>
      by_cases ho : rgOk lo hi = true
      · have e0 : seqD (.rg lo hi) = some (rngD lo (hi - lo).toNat) := if_pos ho
        rw [e0] at p
        refine .inr (.inr ⟨F0, H0, F, ρ, sp, rl, ?_⟩)
        rw [h]
        intro v F' H' g q vm
        obtain ⟨a, ev, hn, hh⟩ := vm.1
        exact ⟨a, lo, hi, ev, hh, rgOk_spec ho, p _ F' H' g q (dis_rng.imp fun _ _ _ _ => trivial)⟩
      · have e0 : seqD (.rg lo hi) = none := if_neg ho
        rw [e0] at p
        exact p.elim
    | dat d =>
      cases d with
      | list xs => exact .inl (lst rfl p)
      | tuple xs =>
        refine .inr (.inl ⟨F0, H0, F, ρ, sp, rl, ?_⟩)
        rw [h]
        intro v F' H' g q vm
        obtain ⟨F2, g2, l2, k⟩ := hold (d := .tuple xs) g vm rfl
        obtain ⟨a, vs, ev, hs, _⟩ := (Rd.of (d := .tuple xs) rfl vm.1).tup g.le
        subst ev
        exact ⟨a, rfl, ⟨vs, hs⟩, p _ F2 H' g2 q (dis_tup.imp k)⟩
      | _ => exact p.elim
    | _ => exact p.elim
theorem pdi_enum (ha : PD (mB b) X as E e te) (hg : Gl X "enumerate") (hm : X.mg "enumerate" = none) (hs : starEach [e] X.env = (false, eval e X.env) :: starEach [] X.env := by rfl) :
    PDi b X as E (.Tuple elts kk tpos) (.Call (.Name "enumerate" p) [e] [] pos) (dEnum te) := by
  refine ⟨PI.imp (PI.or (pi_enum hg hm (pa_cons ha.pe pa_nil hs) hs) (piEnumT hg hm (pa_cons ha.pe pa_nil hs) hs)) fun σ H R ⟨F0, H0, F, ρ, sp, rl, p⟩ => ?_⟩
  unfold dEnum at p
  cases h : te ρ sp with
  | bad => rw [h] at p; exact p.elim
  | exc x sp1 => rw [h] at p; exact .inl (TD_exc rl h p)
  | ok s sp1 =>
    rw [h] at p
    rw [Out.bind_ok] at p
    have lst : ∀ {ds : List D}, s.d? = some (.list ds) → PVi b X.K as X.mg E F H R (.ok (enumD ds) sp1) → iEnum X.K (tCons (TD (mB b) X.K as X.mg E te) tNil) σ H R := fun hd p => by
      refine ⟨F0, H0, F, ρ, sp, rl, ?_⟩
      rw [h]
      intro v F' H' g q vm
      obtain ⟨F2, g2, l2, k⟩ := hold g vm hd
      obtain ⟨a, vs, ev, hs, _⟩ := (Rd.of hd vm.1).list g.le
      subst ev
      exact ⟨a, vs, rfl, hs, p _ F2 H' g2 q (dis_enum.imp k)⟩
    cases s with
    | ol xs => exact .inl (lst rfl p)
    | dat d =>
      cases d with
      | list xs => exact .inl (lst rfl p)
      | tuple xs =>
        refine .inr ⟨F0, H0, F, ρ, sp, rl, ?_⟩
        rw [h]
        intro v F' H' g q vm
        obtain ⟨F2, g2, l2, k⟩ := hold (d := .tuple xs) g vm rfl
        obtain ⟨a, vs, ev, hs, _⟩ := (Rd.of (d := .tuple xs) rfl vm.1).tup g.le
        subst ev
        exact ⟨a, vs, rfl, hs, p _ F2 H' g2 q (dis_enumT.imp k)⟩
      | _ => exact p.elim
    | _ => exact p.elim
theorem pdi_rev (ha : PD (mB b) X as E e te) (hg : Gl X "reversed") (hm : X.mg "reversed" = none) (hs : starEach [e] X.env = (false, eval e X.env) :: starEach [] X.env := by rfl) :
    PDi b X as E tg (.Call (.Name "reversed" p) [e] [] pos) (dRevd te) := by
  refine ⟨PI.imp (pi_revA hg hm ha.pe hs) fun σ H R ⟨F0, H0, F, ρ, sp, rl, p⟩ => ?_⟩
  refine ⟨F0, H0, F, ρ, sp, rl, PV.imp (bindQ (m' := mB b) p) fun v H1 ⟨F1, s, sp1, e1, g1, q1, r1, p2⟩ => ?_⟩
  cases z : itemsD s with
  | none => rw [z] at p2; exact p2.elim
  | some ds =>
    rw [z] at p2
    unfold itemsD at z
    have lst : s.d? = some (.list ds) → ∃ (a : Addr) (xs : List V), v = .ref a ∧ ((SqL X.K H1 a xs ∧ R (Itv X.K a xs.length) H1) ∨ (SqT X.K H1 a xs ∧ R (ItvT X.K a xs.length) H1)) := fun hd => by
      obtain ⟨F2, g2, l2, k⟩ := hold g1 r1 hd
      obtain ⟨a, vs, ev, hs, rr⟩ := (Rd.of hd r1.1).list g1.le
      exact ⟨a, vs, ev, .inl ⟨hs, p2 _ F2 H1 g2 q1 ((dis_rev rr.length).imp fun F3 H3 k3 l3 => ev ▸ k F3 H3 k3 l3)⟩⟩
    split at z
    · cases z; exact lst rfl
    · cases z
      obtain ⟨F2, g2, l2, k⟩ := hold (d := .tuple ds) g1 r1 rfl
      obtain ⟨a, vs, ev, hs, rr⟩ := (Rd.of (d := .tuple ds) rfl r1.1).tup g1.le
      exact ⟨a, vs, ev, .inr ⟨hs, p2 _ F2 H1 g2 q1 ((dis_revT rr.length).imp fun F3 H3 k3 l3 => ev ▸ k F3 H3 k3 l3)⟩⟩
    · cases z; exact lst rfl
    · cases z
theorem pdi_zip (ha : PD (mB b) X as E e te) (hb : PD (mB b) X as E e2 tf) (hg : Gl X "zip") (hm : X.mg "zip" = none) (hs : starEach [e, e2] X.env = (false, eval e X.env) :: starEach [e2] X.env := by rfl) (hs2 : starEach [e2] X.env = (false, eval e2 X.env) :: starEach [] X.env := by rfl)
    (hpl : (backTo pos (starEach [e2] X.env)).any (·.1) = false := by rfl) : PDi b X as E (.Tuple elts kk tpos) (.Call (.Name "zip" p) [e, e2] [] pos) (dZip te tf) := by
  refine ⟨PI.imp (pi_zipA hg hm (pa_cons ha.pe (pa_cons hb.pe pa_nil hs2) hs) hs hpl) fun σ H R ⟨F0, H0, F, ρ, sp, rl, p⟩ => ?_⟩
  refine ⟨F0, H0, F, ρ, sp, rl, PV.imp (bindQ (m' := mB b) p) fun v H1 ⟨F1, s, sp1, e1, g1, q1, r1, p2⟩ => ?_⟩
  cases zd : s.d? with
  | none =>
    refine ⟨F0, H0, F1, ρ, sp1, rl.go g1 q1, PV.imp (bindQ (m' := mB b) (p2.go g1)) fun w H2 ⟨F2, t, sp2, e2, g2, q2, r2, p3⟩ => ?_⟩
    unfold zipS at p3
    rw [zd] at p3
    exact p3.elim
  | some d =>
    obtain ⟨F1', g1', l1, k1⟩ := hold g1 r1 zd
    refine ⟨F0, H0, F1', ρ, sp1, rl.go g1' q1, PV.imp (bindQ (m' := mB b) (p2.go g1')) fun w H2 ⟨F2, t, sp2, e2, g2, q2, r2, p3⟩ => ?_⟩
    cases zt : t.d? with
    | none => unfold zipS at p3; rw [zd, zt] at p3; exact p3.elim
    | some d2 =>
      unfold zipS at p3
      rw [zd, zt] at p3
      obtain ⟨F2', g2', l2, k2⟩ := hold g2 r2 zt
      have both : ∀ F3 H3, Kp b as F2' H2 F3 H3 → Le F3 H3 → Rd X.K as F3 H3 v d ∧ Rd X.K as F3 H3 w d2 := fun F3 H3 k l => ⟨k1 F3 H3 (Kp.mono g2' k) l, k2 F3 H3 k l⟩
      have now := both F2' H2 (by cases b <;> first | exact Gr.refl g2'.le | exact Le.refl _) g2'.le
      simp only [Option.bind_some] at p3
      split at p3
      · obtain ⟨a, xs, ev, h1, _⟩ := now.1.list g2'.le
        obtain ⟨a', ys, ew, h2, _⟩ := now.2.list g2'.le
        subst ev ew
        exact ⟨a, a', xs, ys, rfl, .inl ⟨h1, h2, p3 _ F2' H2 (g1'.trans g2') q2 (dis_zip.imp both)⟩⟩
      · obtain ⟨a, xs, ev, h1, _⟩ := now.1.tup g2'.le
        obtain ⟨a', ys, ew, h2, _⟩ := now.2.tup g2'.le
        subst ev ew
        exact ⟨a, a', xs, ys, rfl, .inr ⟨h1, h2, p3 _ F2' H2 (g1'.trans g2') q2 (dis_zipT.imp both)⟩⟩
      · exact p3.elim
theorem pdi_range1 (ha : PDa .rd X as E [e] ta) (hg : Gl X "range") (hm : X.mg "range" = none) (hs : starEach [e] X.env = [(false, eval e X.env)] := by rfl) : PDi b X as E tg (.Call (.Name "range" p) [e] [] pos) (dRange1 ta) := by
  refine ⟨PI.imp (pi_range1 hg hm ha.pa hs) fun σ H R ⟨F0, H0, F, ρ, sp, rl, p⟩ => ?_⟩
  refine ⟨F0, H0, F, ρ, sp, rl, PVa.imp (bindQa (m' := .rd) p) fun vs H1 ⟨F1, ss, sp1, e1, g1, q1, r1, p2⟩ => ?_⟩
  have pr : Paired (VR X.K as F1 H1) ss vs := Paired.mapP r1.1 fun _ _ z => z.1
  unfold rgS1 at p2
  split at p2
  · split at p2
    · rename_i ho
      obtain ⟨v, rfl, hv⟩ := pr1 pr
      obtain rfl := (Rd.of (d := .int _) rfl hv).int
      have h := rgOk_spec ho
      exact ⟨_, rfl, h.2.2.1, h.2.2.2, p2 _ F1 H1 g1 q1 (dis_rng.imp fun _ _ _ _ => trivial)⟩
    · exact p2.elim
  · exact p2.elim
theorem pdi_range2 (ha : PDa .rd X as E [e, e2] ta) (hg : Gl X "range") (hm : X.mg "range" = none) (hs : starEach [e, e2] X.env = [(false, eval e X.env), (false, eval e2 X.env)] := by rfl) (hs2 : starEach [e2] X.env = [(false, eval e2 X.env)] := by rfl) :
    PDi b X as E tg (.Call (.Name "range" p) [e, e2] [] pos) (dRange2 ta) := by
  refine ⟨PI.imp (pi_range2 hg hm ha.pa hs hs2) fun σ H R ⟨F0, H0, F, ρ, sp, rl, p⟩ => ?_⟩
  refine ⟨F0, H0, F, ρ, sp, rl, PVa.imp (bindQa (m' := .rd) p) fun vs H1 ⟨F1, ss, sp1, e1, g1, q1, r1, p2⟩ => ?_⟩
  have pr : Paired (VR X.K as F1 H1) ss vs := Paired.mapP r1.1 fun _ _ z => z.1
  unfold rgS2 at p2
  split at p2
  · split at p2
    · rename_i ho
      obtain ⟨v, w, rfl, hv, hw⟩ := pr2 pr
      obtain rfl := (Rd.of (d := .int _) rfl hv).int
      obtain rfl := (Rd.of (d := .int _) rfl hw).int
      exact ⟨_, _, rfl, rgOk_spec ho, p2 _ F1 H1 g1 q1 (dis_rng.imp fun _ _ _ _ => trivial)⟩
    · exact p2.elim
  · exact p2.elim
/-- range(i, j, -1) and the like -/
theorem pdi_range3 {a c : Expr} (ha : PDa .rd X as E [a, e, c] ta) (hg : Gl X "range") (hm : X.mg "range" = none) (hs : starEach [a, e, c] X.env = (false, eval a X.env) :: starEach [e, c] X.env := by rfl) (hpl : (backTo pos (starEach [e, c] X.env)).any (·.1) = false := by rfl) :
    PDi b X as E tg (.Call (.Name "range" p) [a, e, c] [] pos) (dRange3 ta) := by
  refine ⟨PI.imp (pi_range3 hg hm ha.pa hs hpl) fun σ H R ⟨F0, H0, F, ρ, sp, rl, p⟩ => ?_⟩
  refine ⟨F0, H0, F, ρ, sp, rl, PVa.imp (bindQa (m' := .rd) p) fun vs H1 ⟨F1, ss, sp1, e1, g1, q1, r1, p2⟩ => ?_⟩
  have pr : Paired (VR X.K as F1 H1) ss vs := Paired.mapP r1.1 fun _ _ z => z.1
  unfold rgS3 at p2
  split at p2
  · split at p2
    · rename_i ho
      cases pr with
      | cons h1 pr =>
        obtain ⟨v, w, rfl, hv, hw⟩ := pr2 pr
        obtain rfl := (Rd.of (d := .int _) rfl h1).int
        obtain rfl := (Rd.of (d := .int _) rfl hv).int
        obtain rfl := (Rd.of (d := .int _) rfl hw).int
        simp only [Bool.and_eq_true, decide_eq_true_eq] at ho
        refine ⟨_, _, _, _, rfl, ⟨ho.1.1.1, ho.1.1.2, ho.1.2, ?_⟩, p2 _ F1 H1 g1 q1 (dis_rngC.imp fun _ _ _ _ => trivial)⟩
        have := ho.2
        omega
    · exact p2.elim
  · exact p2.elim
end
end Dn
namespace Dn
open PySem PySem.Spec PyProof.Rows L2

/-! ### targets that take data -/
abbrev GD := D → Env_ → Option Env_
abbrev GDs := List D → Env_ → Option Env_
def gdName (i : Nat) : GD := fun d ρ => some (ρ.set i (.dat d))
def gdNil : GDs := fun ds ρ => match ds with
  | [] => some ρ
  | _ => none
def gdCons (g : GD) (gs : GDs) : GDs := fun ds ρ => match ds with
  | [] => none
  | d :: r => (g d ρ).bind fun ρ1 => gs r ρ1
def gdTup (n : Nat) (gs : GDs) : GD := fun d ρ => match d with
  | .tuple ds => if ds.length = n then gs ds ρ else none
  | _ => none
def TDg (K : PySem.W.Frag) (as : Option Addr) (g : GD) (vs : List Nat) : TG := fun v σ H Q => ∃ F0 H0 F ρ sp d ρ', Rl K as F0 H0 F H sp ρ σ ∧ Rp K F v d ∧ g d ρ = some ρ' ∧
  ∀ σ', Rl K as F0 H0 F H sp ρ' σ' → (∀ i, i ∉ vs → σ'[i]? = σ[i]?) → σ'.length = σ.length → Q σ' H
def TDgs (K : PySem.W.Frag) (as : Option Addr) (g : GDs) (vs : List Nat) : TGs := fun v σ H Q => ∃ F0 H0 F ρ sp d ρ', Rl K as F0 H0 F H sp ρ σ ∧ RpA K F v d ∧ g d ρ = some ρ' ∧
  ∀ σ', Rl K as F0 H0 F H sp ρ' σ' → (∀ i, i ∉ vs → σ'[i]? = σ[i]?) → σ'.length = σ.length → Q σ' H
/-- own things stay where they are -/
def Stays (vs : List Nat) (ρ ρ' : Env_) : Prop := ∀ (i : Nat) (s : Sl), ρ'[i]? = some s → s.own = true → ρ[i]? = some s ∧ i ∉ vs
structure PDg (X : Cx) (as : Option Addr) (tg : Expr) (g : GD) (vs : List Nat) : Prop where
  pg : PG X tg (TDg X.K as g vs)
  only : ∀ d ρ ρ', g d ρ = some ρ' → Stays vs ρ ρ'
structure PDgs (X : Cx) (as : Option Addr) (tgs : List Expr) (g : GDs) (vs : List Nat) : Prop where
  pg : PGs X tgs (TDgs X.K as g vs)
  only : ∀ d ρ ρ', g d ρ = some ρ' → Stays vs ρ ρ'
section
variable {K : PySem.W.Frag} {as : Option Addr} {F0 H0 F H : Hp} {sp : SpO} {ρ : Env_} {σ : L2.St} {v : V} {d : D} {i : Nat} {s : Sl}
/-- a slot is written -/
theorem Rl.set (r : Rl K as F0 H0 F H sp ρ σ) (hi : i < σ.length) (hv : VR K as F H s v) (hf : s.own = true → ∀ a, v = .ref a → H0 a = none)
    (hd : s.own = true → ∀ (j : Nat) (t : Sl) (a : Addr), ρ[j]? = some t → t.own = true → j ≠ i → v = .ref a → σ[j]? ≠ some (some (V.ref a))) : Rl K as F0 H0 F H sp (ρ.set i s) (σ.set i (some v)) where
  gr := r.gr
  sp := r.sp
  nas := r.nas
  slot := fun j t e n => by
    by_cases hj : i = j
    · subst hj
      by_cases hl : i < ρ.length
      · rw [List.getElem?_set_self hl] at e
        cases e
        exact ⟨v, List.getElem?_set_self hi, hv, hf⟩
      · rw [List.getElem?_eq_none (by simpa using hl)] at e; cases e
    · rw [List.getElem?_set_ne hj] at e ⊢
      exact r.slot j t e n
  dis := fun j k t u a e1 e2 o1 o2 v1 v2 => by
    by_cases hj : i = j
    · by_cases hk : i = k
      · rw [← hj, ← hk]
      · subst hj
        rw [List.getElem?_set_ne hk] at e2 v2
        by_cases hl : i < ρ.length
        · rw [List.getElem?_set_self hl] at e1
          cases e1
          rw [List.getElem?_set_self hi] at v1
          exact absurd v2 (hd o1 k u a e2 o2 (Ne.symm hk) (Option.some.inj (Option.some.inj v1)))
        · rw [List.getElem?_eq_none (by simpa using hl)] at e1; cases e1
    · rw [List.getElem?_set_ne hj] at e1 v1
      by_cases hk : i = k
      · subst hk
        by_cases hl : i < ρ.length
        · rw [List.getElem?_set_self hl] at e2
          cases e2
          rw [List.getElem?_set_self hi] at v2
          exact absurd v1 (hd o2 j t a e1 o1 (Ne.symm hj) (Option.some.inj (Option.some.inj v2)))
        · rw [List.getElem?_eq_none (by simpa using hl)] at e2; cases e2
      · rw [List.getElem?_set_ne hk] at e2 v2
        exact r.dis j k t u a e1 e2 o1 o2 v1 v2
theorem Rl.setD (r : Rl K as F0 H0 F H sp ρ σ) (hi : i < σ.length) (hv : Rp K F v d) : Rl K as F0 H0 F H sp (ρ.set i (.dat d)) (σ.set i (some v)) :=
  r.set hi hv (fun o => nomatch o) (fun o => nomatch o)
end
section
variable {X : Cx} {as : Option Addr} {tg e : Expr} {es : List Expr} {g : GD} {gs : GDs} {vs vs2 : List Nat} {i k : Nat} {x : Str} {pos : Pos}
theorem pdg_name (hN : X.N.Nodup) (hi : X.N[i]? = some x) (hx : Loc X.env.scope x) (hf : X.fn x = true ∨ X.env.scope.names.lookup x = some .local := by first | exact .inl rfl | exact .inr rfl | assumption) : PDg X as (.Name x pos) (gdName i) [i] where
  pg := by
    refine ⟨fun pins s σ H v u Q I r ⟨F0, H0, F, ρ, sp, d, ρ', rl, rp, hg, h⟩ => (pg_name hN hi hx hf).run pins s σ H v u Q I r ?_⟩
    cases hg
    have hl : i < σ.length := by
      rw [I.len]
      exact (List.getElem?_eq_some_iff.mp hi).1
    exact h _ (rl.setD hl rp) (fun j hj => List.getElem?_set_ne (by simpa using Ne.symm (by simpa using hj))) (List.length_set ..)
  only := fun d ρ ρ' e j s hs ho => by
    cases e
    by_cases hj : i = j
    · subst hj
      by_cases hl : i < ρ.length
      · rw [List.getElem?_set_self hl] at hs
        cases hs
        cases ho
      · rw [List.getElem?_eq_none (by simpa using hl)] at hs; cases hs
    · rw [List.getElem?_set_ne hj] at hs
      exact ⟨hs, by simpa using Ne.symm hj⟩
theorem pdgs_nil : PDgs X as [] gdNil [] where
  pg := by
    refine ⟨fun pins s σ H vs us Q I r ⟨F0, H0, F, ρ, sp, d, ρ', rl, rp, hg, h⟩ => pgs_nil.run pins s σ H vs us Q I r ?_⟩
    cases rp with
    | nil => cases hg; exact ⟨rfl, h σ rl (fun _ _ => rfl) rfl⟩
    | cons _ _ => cases hg
  only := fun d ρ ρ' e j s hs ho => by
    cases d with
    | nil => cases e; exact ⟨hs, by simp⟩
    | cons _ _ => cases e
theorem pdgs_cons (h1 : PDg X as e g vs) (h2 : PDgs X as es gs vs2) (hs : (assignEach (e :: es) X.env).map (·.2) = assign e X.env :: (assignEach es X.env).map (·.2) := by rfl) : PDgs X as (e :: es) (gdCons g gs) (vs ++ vs2) where
  pg := by
    refine ⟨fun pins s σ H ws us Q I r ⟨F0, H0, F, ρ, sp, d, ρ', rl, rp, hg, h⟩ => (pgs_cons h1.pg h2.pg hs).run pins s σ H ws us Q I r ?_⟩
    cases rp with
    | nil => cases hg
    | cons r1 r2 =>
      obtain ⟨ρ1, e1, e2⟩ := Option.bind_eq_some_iff.mp hg
      refine ⟨_, _, rfl, F0, H0, F, ρ, sp, _, ρ1, rl, r1, e1, fun σ1 rl1 k1 l1 => ⟨F0, H0, F, ρ1, sp, _, ρ', rl1, r2, e2, fun σ2 rl2 k2 l2 => ?_⟩⟩
      refine h σ2 rl2 (fun j hj => ?_) (l2.trans l1)
      rw [List.mem_append, not_or] at hj
      rw [k2 j hj.2, k1 j hj.1]
  only := fun d ρ ρ' e' j s hj ho => by
    cases d with
    | nil => cases e'
    | cons d r =>
      obtain ⟨ρ1, e1, e2⟩ := Option.bind_eq_some_iff.mp e'
      obtain ⟨q1, q2⟩ := h2.only _ _ _ e2 j s hj ho
      obtain ⟨q3, q4⟩ := h1.only _ _ _ e1 j s q1 ho
      exact ⟨q3, by rw [List.mem_append, not_or]; exact ⟨q4, q2⟩⟩
theorem pdg_tup {n : Nat} (hc : X.calm = true) (h : PDgs X as es gs vs) (hn : (assignEach es X.env).length = n := by rfl) (hst : (assignEach es X.env).findIdx? (·.1) = none := by rfl) : PDg X as (.Tuple es k pos) (gdTup n gs) vs where
  pg := by
    refine ⟨fun pins s σ H v u Q I r ⟨F0, H0, F, ρ, sp, d, ρ', rl, rp, hg, q⟩ => (pg_tup hc h.pg hn hst).run pins s σ H v u Q I r ?_⟩
    unfold gdTup at hg
    split at hg
    · split at hg
      · rename_i hl
        cases rp with
        | tup hs rr => exact ⟨_, _, rfl, rl.le.sqT hs, by rw [rr.length]; exact hl, F0, H0, F, ρ, sp, _, ρ', rl, rr, hg, q⟩
      · cases hg
    · cases hg
  only := fun d ρ ρ' e j s hs ho => by
    unfold gdTup at e
    split at e
    · split at e
      · exact h.only _ _ _ e j s hs ho
      · cases e
    · cases e
end
/-! ### comprehensions -/
def E0 : XK := fun _ _ _ => False
def noX {α : Type} (o : Out α) : Out α := match o with
  | .ok a sp => .ok a sp
  | _ => .bad
@[simp] theorem noX_ok {α : Type} (a : α) (sp : SpO) : noX (.ok a sp) = .ok a sp := rfl
@[simp] theorem noX_bad {α : Type} : noX (.bad : Out α) = .bad := rfl
theorem Out.assoc {α β γ : Type} (o : Out α) (f : α → SpO → Out β) (g : β → SpO → Out γ) : (o.bind f).bind g = o.bind fun a sp => (f a sp).bind g := by cases o <;> rfl
theorem Out.bind_if {α β : Type} {b : Bool} (x y : Out α) (f : α → SpO → Out β) : (if b = true then x else y).bind f = if b = true then x.bind f else y.bind f := by cases b <;> rfl
def wipeD (ρ : Env_) : List Nat → Env_
  | [] => ρ
  | v :: vs => (wipeD ρ vs).set v .un
def lcOne (g : GD) (tt : DT) (te : DE) (ρ : Env_) (y : D) (acc : List D) (sp : SpO) : Out (List D) := match g y ρ with
  | none => .bad
  | some ρ2 => (noX (tt ρ2 sp)).bind fun b sp1 => if b = true then (noX (te ρ2 sp1)).bind fun s sp2 => (match s.d? with
    | some d => if acc.length < sizeLine then .ok (acc ++ [d]) sp2 else .bad
    | none => .bad) else .ok acc sp1
def lcGo (g : GD) (tt : DT) (te : DE) (ρ : Env_) : List D → List D → SpO → Out (List D)
  | [], acc, sp => .ok acc sp
  | y :: ys, acc, sp => (lcOne g tt te ρ y acc sp).bind fun acc sp => lcGo g tt te ρ ys acc sp
def dLc (ti : DI) (g : GD) (tt : DT) (te : DE) (vs : List Nat) : DE := fun ρ sp => (ti ρ sp).bind fun ys sp1 => (lcGo g tt te (wipeD ρ vs) ys [] sp1).bind fun ds sp2 => .ok (.ol ds) sp2
def lcGo2 (g : GD) (tt : DT) (ti1 : DI) (g1 : GD) (tt1 : DT) (te : DE) (vs1 : List Nat) (ρ : Env_) : List D → List D → SpO → Out (List D)
  | [], acc, sp => .ok acc sp
  | y :: ys, acc, sp => match g y ρ with
    | none => .bad
    | some ρ2 => (noX (tt ρ2 sp)).bind fun b sp1 => if b = true then (noX (ti1 ρ2 sp1)).bind fun zs sp2 => (lcGo g1 tt1 te (wipeD ρ2 vs1) zs acc sp2).bind fun acc' sp3 => lcGo2 g tt ti1 g1 tt1 te vs1 ρ ys acc' sp3
      else lcGo2 g tt ti1 g1 tt1 te vs1 ρ ys acc sp1
def dLc2 (ti : DI) (g : GD) (tt : DT) (ti1 : DI) (g1 : GD) (tt1 : DT) (te : DE) (vs vs1 : List Nat) : DE := fun ρ sp => (ti ρ sp).bind fun ys sp1 => (lcGo2 g tt ti1 g1 tt1 te vs1 (wipeD ρ vs) ys [] sp1).bind fun ds sp2 => .ok (.ol ds) sp2
def dYes : DT := fun _ sp => .ok true sp
structure PDts (X : Cx) (as : Option Addr) (E : XK) (ifs : List Expr) (t : DT) : Prop where
  pt : PTs X ifs (TDt X.K as X.mg E t)
section
variable {K : PySem.W.Frag} {as : Option Addr} {mg : Str → Option Value} {E : XK} {F0 H0 F H F1 H1 F2 H2 : Hp} {sp : SpO} {ρ : Env_} {σ : L2.St} {m : Md} {b : Bool} {D : Addr}
theorem pdts_nil {X : Cx} : PDts X as E [] dYes := ⟨⟨fun pins s σ H Q I ⟨F0, H0, F, ρ, sp, rl, p⟩ => pts_nil.run pins s σ H Q I (p F H (Gr.refl rl.le) rl.sp)⟩⟩
theorem pdts_one {X : Cx} {c : Expr} {t : DT} (h : PDt X as E c t) : PDts X as E [c] t := ⟨pts_one h.pt⟩
theorem bindQi {β : Type} {G : β → SpO → Prop} {o : Out (List PyData)} {f : List PyData → SpO → Out β} (p : PO K as mg E F H G (o.bind f)) :
    PVi b K as mg E F H (fun J H1 => ∃ F' ys sp, o = .ok ys sp ∧ Gr as F H F' H1 ∧ SpAt as sp H1 ∧ DIs K as J (Kp b as F' H1) ys ∧ PO K as mg E F H G (f ys sp)) o := by
  cases o with
  | ok s sp => exact fun J F' H' g q d => ⟨F', s, sp, rfl, g, q, d, p⟩
  | exc e sp => exact p
  | bad => exact p
theorem PVi.imp {R R' : It → Hp → Prop} {o : Out (List PyData)} (p : PVi b K as mg E F H R o) (h : ∀ J H', R J H' → R' J H') : PVi b K as mg E F H R' o := by
  cases o with
  | ok s sp => exact fun J F' H' g q d => h _ _ (p J F' H' g q d)
  | exc e sp => exact p
  | bad => exact p
/-- a step that lets nothing out -/
theorem bindXv {β : Type} {G : β → SpO → Prop} {o : Out Sl} {f : Sl → SpO → Out β} (p : PO K as mg E F H G ((noX o).bind f)) :
    PV m K as mg E0 F2 H2 (fun v H3 => ∃ F' s sp, Gr as F2 H2 F' H3 ∧ SpAt as sp H3 ∧ VM m K as H2 F' H3 s v ∧ PO K as mg E F H G (f s sp)) o := by
  cases o with
  | ok s sp => exact fun v F' H' g q r => ⟨F', s, sp, g, q, r, p⟩
  | exc e sp => exact p.elim
  | bad => exact p
theorem bindXt {β : Type} {G : β → SpO → Prop} {o : Out Bool} {f : Bool → SpO → Out β} (p : PO K as mg E F H G ((noX o).bind f)) :
    PVt K as mg E0 F2 H2 (fun v H3 => ∃ F' sp, Gr as F2 H2 F' H3 ∧ SpAt as sp H3 ∧ PO K as mg E F H G (f v sp)) o := by
  cases o with
  | ok s sp => exact fun F' H' g q => ⟨F', sp, g, q, p⟩
  | exc e sp => exact p.elim
  | bad => exact p
theorem bindXi {β : Type} {G : β → SpO → Prop} {o : Out (List PyData)} {f : List PyData → SpO → Out β} (p : PO K as mg E F H G ((noX o).bind f)) :
    PVi b K as mg E0 F2 H2 (fun J H3 => ∃ F' ys sp, Gr as F2 H2 F' H3 ∧ SpAt as sp H3 ∧ DIs K as J (Kp b as F' H3) ys ∧ PO K as mg E F H G (f ys sp)) o := by
  cases o with
  | ok s sp => exact fun J F' H' g q d => ⟨F', s, sp, g, q, d, p⟩
  | exc e sp => exact p.elim
  | bad => exact p
theorem wipe_in {σ : L2.St} {i : Nat} : ∀ {vs : List Nat}, i ∈ vs → i < σ.length → (wipe σ vs)[i]? = some none
  | v :: vs, h, hl => by
    unfold wipe
    by_cases hv : v = i
    · subst hv
      exact List.getElem?_set_self (by rw [wipe_length]; exact hl)
    · rw [List.getElem?_set_ne hv]
      exact wipe_in ((List.mem_cons.mp h).resolve_left (Ne.symm hv)) hl
theorem wipe_eq {σ σ2 : L2.St} {vs vs1 : List Nat} (h : ∀ i, i ∉ vs1 → σ2[i]? = σ[i]?) (hl : σ2.length = σ.length) (hs : ∀ i ∈ vs1, i ∈ vs) : wipe σ2 vs = wipe σ vs := by
  apply List.ext_getElem?
  intro i
  by_cases hi : i ∈ vs
  · by_cases hlt : i < σ.length
    · rw [wipe_in hi hlt, wipe_in hi (by rw [hl]; exact hlt)]
    · rw [List.getElem?_eq_none (by rw [wipe_length, hl]; omega), List.getElem?_eq_none (by rw [wipe_length]; omega)]
  · rw [wipe_out hi, wipe_out hi]
    exact h i fun q => hi (hs i q)
theorem wipe_wipe {σ : L2.St} {vs : List Nat} : wipe (wipe σ vs) vs = wipe σ vs := by
  apply List.ext_getElem?
  intro i
  by_cases hi : i ∈ vs
  · by_cases hlt : i < σ.length
    · rw [wipe_in hi hlt, wipe_in hi (by rw [wipe_length]; exact hlt)]
    · rw [List.getElem?_eq_none (by rw [wipe_length, wipe_length]; omega), List.getElem?_eq_none (by rw [wipe_length]; omega)]
  · rw [wipe_out hi]
theorem wipeD_some : ∀ {vs : List Nat} {i : Nat} {s : Sl}, (wipeD ρ vs)[i]? = some s → s ≠ .un → ρ[i]? = some s ∧ i ∉ vs
  | [], i, s, h, n => ⟨h, by simp⟩
  | v :: vs, i, s, h, n => by
    unfold wipeD at h
    by_cases hv : v = i
    · subst hv
      by_cases hl : v < (wipeD ρ vs).length
      · rw [List.getElem?_set_self hl] at h
        cases h
        exact absurd rfl n
      · rw [List.getElem?_eq_none (by simpa using hl)] at h; cases h
    · rw [List.getElem?_set_ne hv] at h
      obtain ⟨h1, h2⟩ := wipeD_some h n
      exact ⟨h1, fun q => (List.mem_cons.mp q).elim (fun e => hv e.symm) h2⟩
theorem own_un {s : Sl} (h : s.own = true) : s ≠ .un := fun e => by subst e; cases h
theorem Rl.wipe (r : Rl K as F0 H0 F H sp ρ σ) (vs : List Nat) : Rl K as F0 H0 F H sp (wipeD ρ vs) (L2.wipe σ vs) where
  gr := r.gr
  sp := r.sp
  nas := r.nas
  slot := fun i s e n => by
    obtain ⟨e1, e2⟩ := wipeD_some e n
    obtain ⟨v, h1, h2⟩ := r.slot i s e1 n
    exact ⟨v, by rw [wipe_out e2]; exact h1, h2⟩
  dis := fun i j s t a e1 e2 o1 o2 v1 v2 => by
    obtain ⟨e1, k1⟩ := wipeD_some e1 (own_un o1)
    obtain ⟨e2, k2⟩ := wipeD_some e2 (own_un o2)
    rw [wipe_out k1] at v1
    rw [wipe_out k2] at v2
    exact r.dis i j s t a e1 e2 o1 o2 v1 v2
/-- an untold object of ours is written -/
theorem Gr.wr {o : HO} (g : Gr as F1 H1 F H) (h1 : H1 D = none) (hF : F D = none) (hH : H D ≠ none) : Gr as F1 H1 F (upd H D o) where
  keep := fun a u n e => by
    have ne : a ≠ D := fun q => by rw [q, h1] at e; cases e
    rw [upd_ne ne]
    exact g.keep a u n e
  tr := fun a e => by
    by_cases q : a = D
    · rw [q]; exact h1
    · rw [upd_ne q] at e; exact g.tr a e
  sub := g.sub
  le := fun a u e => by
    have ne : a ≠ D := fun q => by rw [q, hF] at e; cases e
    rw [upd_ne ne]
    exact g.le a u e
  new := g.new
theorem Gr.stayN (g : Gr as F H F2 H2) (hF : F D = none) (hH : H D ≠ none) : F2 D = none := by
  cases q : F2 D with
  | none => rfl
  | some o =>
    rcases g.new D o q with ⟨o', z⟩ | z
    · rw [hF] at z; cases z
    · exact absurd z hH
/-- a comprehension's list under way -/
structure LcS (K : PySem.W.Frag) (as : Option Addr) (F1 H1 : Hp) (D : Addr) (Fc Hc : Hp) (acc : List PyData) (sp : SpO) : Prop where
  gr : Gr as F1 H1 Fc Hc
  sp : SpAt as sp Hc
  un : Fc D = none
  at_ : ∃ vs, Hc D = some (.lst vs) ∧ RpA K Fc vs acc
theorem LcS.go {Fc Hc : Hp} {acc : List PyData} {sp sp2 : SpO} (s : LcS K as F1 H1 D Fc Hc acc sp) (n : as ≠ some D) (g : Gr as Fc Hc F2 H2) (q : SpAt as sp2 H2) : LcS K as F1 H1 D F2 H2 acc sp2 := by
  obtain ⟨vs, e, r⟩ := s.at_
  exact ⟨s.gr.trans g, q, g.stayN s.un (by rw [e]; exact fun z => nomatch z), vs, g.keep D _ n e, r.mono g.sub⟩
/-- no own thing in the slots is the list under way -/
def NoD (D : Addr) (ρ : Env_) (σ : L2.St) : Prop := ∀ (i : Nat) (s : Sl), ρ[i]? = some s → s.own = true → σ[i]? ≠ some (some (V.ref D))
theorem Rl.noD (r : Rl K as F0 H0 F H sp ρ σ) (h : H D = none) : NoD D ρ σ := fun i s e o ev => by
  obtain ⟨v, h1, h2, _⟩ := r.slot i s e (own_un o)
  rw [ev] at h1
  cases h1
  exact h2.there o rfl h
theorem NoD.wipe (h : NoD D ρ σ) (vs : List Nat) : NoD D (wipeD ρ vs) (L2.wipe σ vs) := fun i s e o ev => by
  obtain ⟨e1, e2⟩ := wipeD_some e (own_un o)
  rw [wipe_out e2] at ev
  exact h i s e1 o ev
theorem NoD.stays {ρ2 : Env_} {σ2 : L2.St} {vs : List Nat} (h : NoD D ρ σ) (st : Stays vs ρ ρ2) (k : ∀ i, i ∉ vs → σ2[i]? = σ[i]?) : NoD D ρ2 σ2 := fun i s e o ev => by
  obtain ⟨e1, e2⟩ := st i s e o
  rw [k i e2] at ev
  exact h i s e1 o ev
theorem VR.wr {s : Sl} {v : V} {o : HO} (h : VR K as F H s v) (hD : s.own = true → v ≠ .ref D) (hr : ∀ lo hi, H D ≠ some (.rng lo hi)) : VR K as F (upd H D o) s v := by
  cases s with
  | ol xs =>
    obtain ⟨a, vs, e, n, f, hh, r⟩ := h
    exact ⟨a, vs, e, n, f, by rw [upd_ne fun q => hD rfl (by rw [e, q])]; exact hh, r⟩
  | od xs =>
    obtain ⟨a, vs, e, n, f, hh, r⟩ := h
    exact ⟨a, vs, e, n, f, by rw [upd_ne fun q => hD rfl (by rw [e, q])]; exact hh, r⟩
  | os xs =>
    obtain ⟨a, S, k, e, n, f, hh, r⟩ := h
    exact ⟨a, S, k, e, n, f, by rw [upd_ne fun q => hD rfl (by rw [e, q])]; exact hh, r⟩
  | rg lo hi =>
    obtain ⟨a, e, n, hh⟩ := h
    exact ⟨a, e, n, by rw [upd_ne fun q => hr lo hi (by rw [← q]; exact hh)]; exact hh⟩
  | _ => exact h
theorem SpAt.wr {o : HO} (q : SpAt as sp H) (n : as ≠ some D) : SpAt as sp (upd H D o) := by
  cases as with
  | none => cases sp <;> exact q
  | some a0 =>
    have ne : a0 ≠ D := fun e => n (by rw [e])
    cases sp with
    | none => exact q
    | some t =>
      show upd H D _ a0 = _
      rw [upd_ne ne]
      exact q
/-- an object that is in no slot is written -/
theorem Rl.wr {o : HO} (r : Rl K as F0 H0 F H sp ρ σ) (h0 : H0 D = none) (hF : F D = none) (hH : ∃ vs, H D = some (.lst vs)) (n : as ≠ some D) (nd : NoD D ρ σ) : Rl K as F0 H0 F (upd H D o) sp ρ σ where
  gr := r.gr.wr h0 hF (by obtain ⟨vs, e⟩ := hH; rw [e]; exact fun z => nomatch z)
  sp := r.sp.wr n
  nas := r.nas
  slot := fun i s e ns => by
    obtain ⟨v, h1, h2, h3⟩ := r.slot i s e ns
    exact ⟨v, h1, h2.wr (fun o q => nd i s e o (by rw [h1, q])) (fun lo hi q => by obtain ⟨vs, e⟩ := hH; rw [e] at q; cases q), h3⟩
  dis := r.dis
theorem lc_step {β : Type} {Fc Hc H' : Hp} {acc : List PyData} {x : V} {y : PyData} {g : GD} {tt : DT} {te : DE} {wv : List Nat} {G : β → SpO → Prop} {rest : List PyData → SpO → Out β} {vsg : List Nat} {σw : L2.St}
    (st : LcS K as F1 H1 D Fc Hc acc sp) (hD : H1 D = none) (h0 : H0 D = none) (n : as ≠ some D) (rl : Rl K as F0 H0 Fc Hc sp ρ (L2.wipe σw wv)) (nd : NoD D ρ (L2.wipe σw wv)) (g2 : Gr as Fc Hc F2 H') (l2 : Le Hc H') (rx : Rp K F2 x y) (hvs : ∀ i ∈ vsg, i ∈ wv)
    (p : PO K as mg E F H G ((lcOne g tt te ρ y acc sp).bind rest)) :
    TDg K as g vsg x (L2.wipe σw wv) H' fun σ2 H2 => L2.wipe σ2 wv = L2.wipe σw wv ∧ TDt K as mg E0 tt σ2 H2 fun b H3 => if b = true then TD .vl K as mg E0 te σ2 H3 fun y H4 => ∃ vs, H4 D = some (.lst vs) ∧ vs.length < sizeLine ∧
      (∃ F5 acc' sp', LcS K as F1 H1 D F5 (upd H4 D (.lst (vs ++ [y]))) acc' sp' ∧ Le Fc F5 ∧ Rl K as F0 H0 F5 (upd H4 D (.lst (vs ++ [y]))) sp' ρ (L2.wipe σw wv) ∧ PO K as mg E F H G (rest acc' sp'))
      else ∃ F5 acc' sp', LcS K as F1 H1 D F5 H3 acc' sp' ∧ Le Fc F5 ∧ Rl K as F0 H0 F5 H3 sp' ρ (L2.wipe σw wv) ∧ PO K as mg E F H G (rest acc' sp') := by
  unfold lcOne at p
  cases hg : g y ρ with
  | none => rw [hg] at p; exact p.elim
  | some ρ2 =>
    rw [hg] at p
    dsimp only at p
    rw [Out.assoc] at p
    have q' := st.sp.keep l2
    have st2 := st.go n g2 q'
    refine ⟨F0, H0, F2, ρ, sp, y, ρ2, rl.go g2 q', rx, hg, fun σ2 rl2 ho hlen => ⟨(wipe_eq ho hlen hvs).trans wipe_wipe, F0, H0, F2, ρ2, sp, rl2, ?_⟩⟩
    refine PVt.imp (bindXt p) fun b H3 ⟨F3, sp3, g3, q3, p3⟩ => ?_
    have st3 := st2.go n g3 q3
    have rl3 := (rl.go g2 q').go g3 q3
    cases b with
    | false => exact ⟨F3, acc, sp3, st3, g2.sub.trans g3.sub, rl3, p3⟩
    | true =>
      rw [if_pos rfl, Out.assoc] at p3
      refine ⟨F0, H0, F3, ρ2, sp3, rl2.go g3 q3, PV.imp (bindXv p3) fun v H4 ⟨F4, s, sp4, g4, q4, vm, p4⟩ => ?_⟩
      have st4 := st3.go n g4 q4
      obtain ⟨vs, hvD, rvs⟩ := st4.at_
      obtain ⟨vs3, hvD3, _⟩ := st3.at_
      cases zd : s.d? with
      | none => rw [zd] at p4; exact p4.elim
      | some d =>
        rw [zd] at p4
        dsimp only at p4
        split at p4
        · rename_i hlt
          refine ⟨vs, hvD, by rw [rvs.length]; exact hlt, ?_⟩
          let P : Addr → Prop := fun a => s.own = true ∧ v = .ref a
          have hP : ∀ a, P a → H3 a = none := fun a q => vm.2.1 (by intro e; cases e) q.1 a q.2
          have nP : ¬ P D := fun q => by
            have := hP D q
            rw [hvD3] at this; cases this
          have hP1 : ∀ a, P a → H1 a = none := fun a q => st3.gr.tr a (hP a q)
          have gf := st4.gr.fz hP1
          have rp : Rp K (fz P F4 H4) v d := VR.fz st4.gr.le vm.1 zd fun o a e => ⟨o, e⟩
          have uD : fz P F4 H4 D = none := by rw [fz_not nP]; exact st4.un
          have hHD : H4 D ≠ none := by rw [hvD]; exact fun z => nomatch z
          have rl4 : Rl K as F0 H0 (fz P F4 H4) H4 sp4 ρ (L2.wipe σw wv) := rl3.go (g4.fz hP) q4
          exact ⟨fz P F4 H4, acc ++ [d], sp4, ⟨gf.wr hD uD hHD, q4.wr n, uD, vs ++ [v], upd_same, (rvs.mono (fz_sub st4.gr.le)).append (.cons rp .nil)⟩, ((g2.sub.trans g3.sub).trans g4.sub).trans (fz_sub st4.gr.le), rl4.wr h0 uD ⟨vs, hvD⟩ n nd, p4⟩
        · exact p4.elim
theorem lc_imp {ti : DI} {g : GD} {tt : DT} {te : DE} {wv vsg : List Nat} {Q : VK} (hvs : ∀ i ∈ vsg, i ∈ wv) (rl : Rl K as F0 H0 F H sp ρ σ) (p : PV m K as mg E F H Q (dLc ti g tt te wv ρ sp)) :
    tLc (TDi true K as mg E ti) (TDg K as g vsg) (TDt K as mg E0 tt) (TD .vl K as mg E0 te) wv σ H Q := by
  refine ⟨F0, H0, F, ρ, sp, rl, PVi.imp (bindQi p.po) fun J H1 ⟨F1, ys, sp1, e1, gr1, q1, dis, p2⟩ D hD => ?_⟩
  have nD : as ≠ some D := fun e => q1.ne D e hD
  have rl1 := (rl.go gr1 q1).wipe wv
  have nd1 := rl1.noD hD
  refine ⟨fun i mm Hc => i ≤ ys.length ∧ mm = ys.length - i ∧ ∃ Fc acc spc, LcS K as F1 H1 D Fc Hc acc spc ∧ PO K as mg E F H (fun s sp => ∀ v F' H', Gr as F H F' H' → SpAt as sp H' → VM m K as H F' H' s v → Q v H') ((lcGo g tt te (wipeD ρ wv) (ys.drop i) acc spc).bind fun ds sp2 => .ok (.ol ds) sp2), ⟨_, Nat.zero_le _, rfl, F1, [], sp1, ⟨Gr.laid1 gr1.le hD, q1.keep (le_upd hD), gr1.le.none hD, [], upd_same, .nil⟩, p2⟩, fun i mm Hc ⟨hle, hm, Fc, acc, spc, st, p3⟩ => ?_⟩
  have kp : Kp true as F1 H1 Fc Hc := st.gr
  rcases Nat.lt_or_eq_of_le hle with hlt | heq
  · right
    obtain ⟨y, hy⟩ := get_lt hlt
    have rlc := rl1.go st.gr st.sp
    refine ⟨dis.go Fc Hc kp st.gr.le i hlt, fun H' => ∃ F5 acc' sp', LcS K as F1 H1 D F5 H' acc' sp' ∧ Le Fc F5 ∧ Rl K as F0 H0 F5 H' sp' (wipeD ρ wv) (L2.wipe σ wv) ∧ PO K as mg E F H (fun s sp => ∀ v F' H', Gr as F H F' H' → SpAt as sp H' → VM m K as H F' H' s v → Q v H') ((lcGo g tt te (wipeD ρ wv) (ys.drop (i + 1)) acc' sp').bind fun ds sp2 => .ok (.ol ds) sp2), fun H' ⟨F5, acc', sp', s5, _, _, p5⟩ => ⟨ys.length - (i + 1), by omega, hlt, rfl, F5, acc', sp', s5, p5⟩, fun x H' hyl => ?_⟩
    obtain ⟨F2, g2, l2, rx⟩ := dis.yld Fc Hc i x H' y kp st.gr.le hyl hy
    refine lc_step (rest := fun acc' sp' => (lcGo g tt te (wipeD ρ wv) (ys.drop (i + 1)) acc' sp').bind fun ds sp2 => Out.ok (Sl.ol ds) sp2) st hD (rl.gr.tr D (gr1.tr D hD)) nD rlc nd1 g2 l2 rx hvs ?_
    have hdr : ys.drop i = y :: ys.drop (i + 1) := by
      rw [List.drop_eq_getElem_cons hlt]
      rw [List.getElem?_eq_getElem hlt] at hy
      cases hy
      rfl
    rw [hdr] at p3
    unfold lcGo at p3
    rw [Out.assoc] at p3
    exact p3
  · left
    refine ⟨dis.stop Fc Hc kp st.gr.le i (Nat.le_of_eq heq.symm), ?_⟩
    rw [heq, List.drop_length] at p3
    obtain ⟨vs, hvD, rvs⟩ := st.at_
    refine p3 (.ref D) Fc Hc (gr1.trans st.gr) st.sp ⟨⟨D, vs, rfl, nD, st.un, hvD, rvs⟩, fun _ _ a e => ?_, fun _ e => nomatch e⟩
    cases e
    exact gr1.tr D hD
theorem lc2_imp {ti ti1 : DI} {g g1 : GD} {tt tt1 : DT} {te : DE} {wv vsg vs1 vsg1 : List Nat} {Q : VK} (hst : ∀ d ρ ρ', g d ρ = some ρ' → Stays vsg ρ ρ') (hvs : ∀ i ∈ vsg, i ∈ wv) (hvs1 : ∀ i ∈ vsg1, i ∈ vs1) (rl : Rl K as F0 H0 F H sp ρ σ) (p : PV m K as mg E F H Q (dLc2 ti g tt ti1 g1 tt1 te wv vs1 ρ sp)) :
    tLc2 (TDi true K as mg E ti) (TDg K as g vsg) (TDt K as mg E0 tt) (TDi false K as mg E0 ti1) (TDg K as g1 vsg1) (TDt K as mg E0 tt1) (TD .vl K as mg E0 te) wv vs1 σ H Q := by
  refine ⟨F0, H0, F, ρ, sp, rl, PVi.imp (bindQi p.po) fun J H1 ⟨F1, ys, sp1, e1, gr1, q1, dis, p2⟩ D hD => ?_⟩
  have nD : as ≠ some D := fun e => q1.ne D e hD
  have rl1 := (rl.go gr1 q1).wipe wv
  let fin : List PyData → SpO → Out Sl := fun ds sp2 => .ok (.ol ds) sp2
  let G : Sl → SpO → Prop := fun s sp => ∀ v F' H', Gr as F H F' H' → SpAt as sp H' → VM m K as H F' H' s v → Q v H'
  let big : List PyData → List PyData → SpO → Out (List PyData) := lcGo2 g tt ti1 g1 tt1 te vs1 (wipeD ρ wv)
  refine ⟨fun i mm Hc => i ≤ ys.length ∧ mm = ys.length - i ∧ ∃ Fc acc spc, LcS K as F1 H1 D Fc Hc acc spc ∧ PO K as mg E F H G ((big (ys.drop i) acc spc).bind fin), ⟨_, Nat.zero_le _, rfl, F1, [], sp1, ⟨Gr.laid1 gr1.le hD, q1.keep (le_upd hD), gr1.le.none hD, [], upd_same, .nil⟩, p2⟩, fun i mm Hc ⟨hle, hm, Fc, acc, spc, st, p3⟩ => ?_⟩
  have kp : Kp true as F1 H1 Fc Hc := st.gr
  rcases Nat.lt_or_eq_of_le hle with hlt | heq
  · right
    obtain ⟨y, hy⟩ := get_lt hlt
    let Nx : Hp → Prop := fun H' => ∃ F5 acc' sp', LcS K as F1 H1 D F5 H' acc' sp' ∧ PO K as mg E F H G ((big (ys.drop (i + 1)) acc' sp').bind fin)
    refine ⟨dis.go Fc Hc kp st.gr.le i hlt, Nx, fun H' ⟨F5, acc', sp', s5, p5⟩ => ⟨ys.length - (i + 1), by omega, hlt, rfl, F5, acc', sp', s5, p5⟩, fun x H' hyl => ?_⟩
    obtain ⟨F2, g2, l2, rx⟩ := dis.yld Fc Hc i x H' y kp st.gr.le hyl hy
    have hdr : ys.drop i = y :: ys.drop (i + 1) := by
      rw [List.drop_eq_getElem_cons hlt]
      rw [List.getElem?_eq_getElem hlt] at hy
      cases hy
      rfl
    rw [hdr] at p3
    have p4 : PO K as mg E F H G ((lcGo2 g tt ti1 g1 tt1 te vs1 (wipeD ρ wv) (y :: ys.drop (i + 1)) acc spc).bind fin) := p3
    rw [lcGo2] at p4
    have q' := st.sp.keep l2
    have st2 := st.go nD g2 q'
    cases hgy : g y (wipeD ρ wv) with
    | none => rw [hgy] at p4; exact p4.elim
    | some ρ2 =>
      rw [hgy] at p4
      dsimp only at p4
      rw [Out.assoc] at p4
      have ndc : NoD D (wipeD ρ wv) (L2.wipe σ wv) := rl1.noD hD
      refine ⟨F0, H0, F2, _, spc, y, ρ2, (rl1.go st.gr st.sp).go g2 q', rx, hgy, fun σ2 rl2 ho hlen => ⟨(wipe_eq ho hlen hvs).trans wipe_wipe, F0, H0, F2, ρ2, spc, rl2, ?_⟩⟩
      have nd2 : NoD D ρ2 σ2 := ndc.stays (hst y _ ρ2 hgy) ho
      refine PVt.imp (bindXt p4) fun b H3 ⟨F3, sp3, g3, q3, p6⟩ => ?_
      have st3 := st2.go nD g3 q3
      cases b with
      | false => exact ⟨F3, acc, sp3, st3, p6⟩
      | true =>
        rw [if_pos rfl, Out.assoc] at p6
        refine ⟨F0, H0, F3, ρ2, sp3, rl2.go g3 q3, PVi.imp (bindXi p6) fun J1 H4 ⟨F4, zs, sp4, g4, q4, dis1, p8⟩ => ?_⟩
        have st4 := st3.go nD g4 q4
        have rl4 := ((rl2.go g3 q3).go g4 q4).wipe vs1
        have nd4 := nd2.wipe vs1
        rw [Out.assoc] at p8
        refine ⟨fun j k Hk => j ≤ zs.length ∧ k = zs.length - j ∧ ∃ Fk acck spk, LcS K as F1 H1 D Fk Hk acck spk ∧ Le F4 Fk ∧ Rl K as F0 H0 Fk Hk spk (wipeD ρ2 vs1) (L2.wipe σ2 vs1) ∧
          PO K as mg E F H G ((lcGo g1 tt1 te (wipeD ρ2 vs1) (zs.drop j) acck spk).bind fun acc' sp3 => (big (ys.drop (i + 1)) acc' sp3).bind fin), ⟨_, Nat.zero_le _, rfl, F4, acc, sp4, st4, Le.refl _, rl4, p8⟩, fun j k Hk ⟨hle1, hk1, Fk, acck, spk, stk, lek, rlk, pk⟩ => ?_⟩
        have kpk : Kp false as F4 H4 Fk Hk := lek
        rcases Nat.lt_or_eq_of_le hle1 with hlt1 | heq1
        · right
          obtain ⟨z, hz⟩ := get_lt hlt1
          refine ⟨dis1.go Fk Hk kpk stk.gr.le j hlt1, fun H' => ∃ F5 acc' sp', LcS K as F1 H1 D F5 H' acc' sp' ∧ Le Fk F5 ∧ Rl K as F0 H0 F5 H' sp' (wipeD ρ2 vs1) (L2.wipe σ2 vs1) ∧
            PO K as mg E F H G ((lcGo g1 tt1 te (wipeD ρ2 vs1) (zs.drop (j + 1)) acc' sp').bind fun acc' sp3 => (big (ys.drop (i + 1)) acc' sp3).bind fin), fun H' ⟨F5, acc', sp', s5, l5, r5, p5⟩ => ⟨zs.length - (j + 1), by omega, hlt1, rfl, F5, acc', sp', s5, lek.trans l5, r5, p5⟩, fun x1 H5 hyl1 => ?_⟩
          obtain ⟨F5, g5, l5, rx5⟩ := dis1.yld Fk Hk j x1 H5 z kpk stk.gr.le hyl1 hz
          refine lc_step (rest := fun acc' sp' => (lcGo g1 tt1 te (wipeD ρ2 vs1) (zs.drop (j + 1)) acc' sp').bind fun acc' sp3 => (big (ys.drop (i + 1)) acc' sp3).bind fin) stk hD (rl.gr.tr D (gr1.tr D hD)) nD rlk nd4 g5 l5 rx5 hvs1 ?_
          have hdr1 : zs.drop j = z :: zs.drop (j + 1) := by
            rw [List.drop_eq_getElem_cons hlt1]
            rw [List.getElem?_eq_getElem hlt1] at hz
            cases hz
            rfl
          rw [hdr1] at pk
          unfold lcGo at pk
          rw [Out.assoc] at pk
          exact pk
        · left
          refine ⟨dis1.stop Fk Hk kpk stk.gr.le j (Nat.le_of_eq heq1.symm), ?_⟩
          rw [heq1, List.drop_length] at pk
          exact ⟨Fk, acck, spk, stk, pk⟩
  · left
    refine ⟨dis.stop Fc Hc kp st.gr.le i (Nat.le_of_eq heq.symm), ?_⟩
    rw [heq, List.drop_length] at p3
    obtain ⟨vs, hvD, rvs⟩ := st.at_
    refine p3 (.ref D) Fc Hc (gr1.trans st.gr) st.sp ⟨⟨D, vs, rfl, nD, st.un, hvD, rvs⟩, fun _ _ a e => ?_, fun _ e => nomatch e⟩
    cases e
    exact gr1.tr D hD
end
section
variable {X : Cx} {as : Option Addr} {E : XK} {m : Md} {elt tg iter tg1 iter1 : Expr} {ifs ifs1 : List Expr} {scope : Scope} {own : List (Str × Nat)} {pos : Pos} {ti ti1 : DI} {g g1 : GD} {tt tt1 : DT} {te : DE} {vs1 vsg vsg1 : List Nat}
theorem pd_lc (hc : X.calm = true) (hN : X.N.Nodup) (hi : PDi true X as E tg iter ti) (ok : BlkOk X.N X.env.scope scope own)
    (hg : ∀ (s : Shared) (H : Hp) (C : Addr) (cl : List (Str × Addr)) (fp : List Addr), PDg (X.blk s H scope (compEnvC scope cl C X.env) fp) as tg g vsg)
    (ht : ∀ (s : Shared) (H : Hp) (C : Addr) (cl : List (Str × Addr)) (fp : List Addr), PDts (X.blk s H scope (compEnvC scope cl C X.env) fp) as E0 ifs tt)
    (he : ∀ (s : Shared) (H : Hp) (C : Addr) (cl : List (Str × Addr)) (fp : List Addr), PD .vl (X.blk s H scope (compEnvC scope cl C X.env) fp) as E0 elt te)
    (hvs : ∀ i ∈ vsg, i ∈ own.map (·.2) := by decide) (hs : ∀ x, foldedSetIterable iter X.env x = pure x := by intro _; rfl) :
    PD m X as E (.ListComp elt [⟨tg, iter, ifs, 0⟩] scope pos) (dLc ti g tt te (own.map (·.2))) :=
  PD.by (pe_lc (g := TDg X.K as g vsg) (tt := TDt X.K as X.mg E0 tt) (te := TD .vl X.K as X.mg E0 te) hc hN hi.pi ok (fun s H C cl fp => (hg s H C cl fp).pg) (fun s H C cl fp => (ht s H C cl fp).pt) (fun s H C cl fp => (he s H C cl fp).pe) hs) fun σ H Q F0 H0 F ρ sp rl p => lc_imp hvs rl p
theorem pd_lc2 (hc : X.calm = true) (hN : X.N.Nodup) (hi : PDi true X as E tg iter ti) (ok : BlkOk X.N X.env.scope scope own) (hv : ∀ i ∈ vs1, i ∈ own.map (·.2))
    (hg : ∀ (s : Shared) (H : Hp) (C : Addr) (cl : List (Str × Addr)) (fp : List Addr), PDg (X.blk s H scope (compEnvC scope cl C X.env) fp) as tg g vsg)
    (ht : ∀ (s : Shared) (H : Hp) (C : Addr) (cl : List (Str × Addr)) (fp : List Addr), PDts (X.blk s H scope (compEnvC scope cl C X.env) fp) as E0 ifs tt)
    (hi1 : ∀ (s : Shared) (H : Hp) (C : Addr) (cl : List (Str × Addr)) (fp : List Addr), PDi false (X.blk s H scope (compEnvC scope cl C X.env) fp) as E0 tg1 iter1 ti1)
    (hg1 : ∀ (s : Shared) (H : Hp) (C : Addr) (cl : List (Str × Addr)) (fp : List Addr), PDg (X.blk s H scope (compEnvC scope cl C X.env) fp) as tg1 g1 vsg1)
    (ht1 : ∀ (s : Shared) (H : Hp) (C : Addr) (cl : List (Str × Addr)) (fp : List Addr), PDts (X.blk s H scope (compEnvC scope cl C X.env) fp) as E0 ifs1 tt1)
    (he : ∀ (s : Shared) (H : Hp) (C : Addr) (cl : List (Str × Addr)) (fp : List Addr), PD .vl (X.blk s H scope (compEnvC scope cl C X.env) fp) as E0 elt te)
    (hvs : ∀ i ∈ vsg, i ∈ own.map (·.2) := by decide) (hvs1 : ∀ i ∈ vsg1, i ∈ vs1 := by decide) (hs : ∀ x, foldedSetIterable iter X.env x = pure x := by intro _; rfl) (hs1 : ∀ env x, foldedSetIterable iter1 env x = pure x := by intro _ _; rfl) :
    PD m X as E (.ListComp elt [⟨tg, iter, ifs, 0⟩, ⟨tg1, iter1, ifs1, 0⟩] scope pos) (dLc2 ti g tt ti1 g1 tt1 te (own.map (·.2)) vs1) :=
  PD.by (pe_lc2 (g := TDg X.K as g vsg) (tt := TDt X.K as X.mg E0 tt) (wi1 := TDi false X.K as X.mg E0 ti1) (g1 := TDg X.K as g1 vsg1) (tt1 := TDt X.K as X.mg E0 tt1) (te := TD .vl X.K as X.mg E0 te) hc hN hi.pi ok hv (fun s H C cl fp => (hg s H C cl fp).pg) (fun s H C cl fp => (ht s H C cl fp).pt) (fun s H C cl fp => (hi1 s H C cl fp).pi) (fun s H C cl fp => (hg1 s H C cl fp).pg) (fun s H C cl fp => (ht1 s H C cl fp).pt) (fun s H C cl fp => (he s H C cl fp).pe) hs hs1) fun σ H Q F0 H0 F ρ sp rl p => lc2_imp (hg X.s_0 X.H_0 0 [] []).only hvs hvs1 rl p
end
end Dn
namespace Dn
open PySem PySem.Spec PyProof.Rows L2

/-! ### statements -/
inductive Fl where
  | nx (ρ : Env_) | rt (s : Sl) | bk (ρ : Env_) | ct (ρ : Env_)
abbrev DS := Env_ → SpO → Out Fl
/-- a state behind the one with F -/
def Nxt (K : PySem.W.Frag) (as : Option Addr) (F0 H0 F : Hp) (sp : SpO) (ρ : Env_) (k : L2.St → Hp → Prop) : Prop := ∀ σ' F' H', Le F F' → Rl K as F0 H0 F' H' sp ρ σ' → k σ' H'
def PVs (K : PySem.W.Frag) (as : Option Addr) (mg : Str → Option Value) (E : XK) (F0 H0 F : Hp) (D : Ends) : Out Fl → Prop
  | .ok (.nx ρ) sp => Nxt K as F0 H0 F sp ρ D.nx
  | .ok (.bk ρ) sp => Nxt K as F0 H0 F sp ρ D.bk
  | .ok (.ct ρ) sp => Nxt K as F0 H0 F sp ρ D.ct
  | .ok (.rt s) sp => ∀ v F' H', Gr as F0 H0 F' H' → SpAt as sp H' → VM .vl K as H0 F' H' s v → D.rt v H'
  | .exc e sp => ∀ c d F' H', Gr as F0 H0 F' H' → SpAt as sp H' → ExR K as mg e c d F' H' → E c d H'
  | .bad => False
def TDs (K : PySem.W.Frag) (as : Option Addr) (mg : Str → Option Value) (E : XK) (t : DS) : TS := fun D σ H => ∃ F0 H0 F ρ sp, Rl K as F0 H0 F H sp ρ σ ∧ PVs K as mg E F0 H0 F D (t ρ sp)
structure PDs (X : Cx) (as : Option Addr) (E : XK) (st : Stmt) (t : DS) : Prop where
  ps : PS X st (TDs X.K as X.mg E t)
structure PDss (X : Cx) (as : Option Addr) (E : XK) (sts : List Stmt) (t : DS) : Prop where
  ps : PSs X sts (TDs X.K as X.mg E t)
def dNext : DS := fun ρ sp => .ok (.nx ρ) sp
def dBad : DS := fun _ _ => .bad
def dSeq (t u : DS) : DS := fun ρ sp => (t ρ sp).bind fun fl sp1 => match fl with
  | .nx ρ1 => u ρ1 sp1
  | f => .ok f sp1
def dIfS (c : DT) (t u : DS) : DS := fun ρ sp => (c ρ sp).bind fun b sp1 => if b = true then t ρ sp1 else u ρ sp1
def dSet (i : Nat) (te : DE) : DS := fun ρ sp => (te ρ sp).bind fun s sp1 => .ok (.nx (ρ.set i s)) sp1
def dDrop (te : DE) : DS := fun ρ sp => (te ρ sp).bind fun _ sp1 => .ok (.nx ρ) sp1
def dRet (te : DE) : DS := fun ρ sp => (te ρ sp).bind fun s sp1 => .ok (.rt s) sp1
def dRetV (i : Nat) : DS := fun ρ sp => match ρ[i]? with
  | some (.dat d) => .ok (.rt (.dat d)) sp
  | some (.ol xs) => .ok (.rt (.ol xs)) sp
  | some (.od xs) => .ok (.rt (.od xs)) sp
  | _ => .bad
def dRetN : DS := fun _ sp => .ok (.rt (.dat .none)) sp
def dPar (i j : Nat) (ta : DA) : DS := fun ρ sp => (ta ρ sp).bind fun ss sp1 => match ss with
  | [s, t] => .ok (.nx ((ρ.set i s).set j t)) sp1
  | _ => .bad
def dAsg (g : GD) (te : DE) : DS := fun ρ sp => (te ρ sp).bind fun s sp1 => match s.d? with
  | some d => (match g d ρ with
    | some ρ' => .ok (.nx ρ') sp1
    | none => .bad)
  | none => .bad
def setK (k : Nat) (v : Int) : Int × Int × Int → SpO
  | (x, y, z) => match k with
    | 0 => some (v, y, z)
    | 1 => some (x, v, z)
    | 2 => some (x, y, v)
    | _ => none
def dSprSet (i k : Nat) (te : DE) : DS := fun ρ sp => (te ρ sp).bind fun s sp1 => match s, ρ[i]?, sp1 with
  | .dat (.int v), some .spr, some t => if k < 3 then .ok (.nx ρ) (setK k v t) else .bad
  | _, _, _ => .bad
def dSprPair (i k j : Nat) (te : DE) : DS := fun ρ sp => (te ρ sp).bind fun s sp1 => match s, ρ[i]?, sp1 with
  | .dat (.tuple [.int v, d]), some .spr, some t => if k < 3 then .ok (.nx (ρ.set j (.dat d))) (setK k v t) else .bad
  | _, _, _ => .bad
def dAugI (f : Int → Int → Int) (i : Nat) (te : DE) : DS := fun ρ sp => match ρ[i]? with
  | some (.dat (.int x)) => (te ρ sp).bind fun s sp1 => (match s with
    | .dat (.int y) => .ok (.nx (ρ.set i (.dat (.int (f x y))))) sp1
    | _ => .bad)
  | _ => .bad
def forGo (g : GD) (tb : DS) : List D → Env_ → SpO → Out Fl
  | [], ρ, sp => .ok (.nx ρ) sp
  | y :: ys, ρ, sp => match g y ρ with
    | none => .bad
    | some ρ1 => (tb ρ1 sp).bind fun fl sp1 => match fl with
      | .nx ρ2 => forGo g tb ys ρ2 sp1
      | .ct ρ2 => forGo g tb ys ρ2 sp1
      | .bk ρ2 => .ok (.nx ρ2) sp1
      | .rt s => .ok (.rt s) sp1
def dFor (ti : DI) (g : GD) (tb : DS) : DS := fun ρ sp => (ti ρ sp).bind fun ys sp1 => forGo g tb ys ρ sp1
def whGo (c : DT) (tb : DS) : Nat → Env_ → SpO → Out Fl
  | 0, _, _ => .bad
  | n + 1, ρ, sp => (c ρ sp).bind fun b sp1 => if b = true then (tb ρ sp1).bind fun fl sp2 => (match fl with
      | .nx ρ2 => whGo c tb n ρ2 sp2
      | .ct ρ2 => whGo c tb n ρ2 sp2
      | .bk ρ2 => .ok (.nx ρ2) sp2
      | .rt s => .ok (.rt s) sp2) else .ok (.nx ρ) sp1
def dWhile (n : Nat) (c : DT) (tb : DS) : DS := fun ρ sp => whGo c tb n ρ sp
/-- an own list is data from here on -/
def dFrz (i : Nat) (t : DS) : DS := fun ρ sp => match ρ[i]? with
  | some (.ol xs) => t (ρ.set i (.dat (.list xs))) sp
  | _ => t ρ sp
section
variable {K : PySem.W.Frag} {as : Option Addr} {mg : Str → Option Value} {E : XK} {F0 H0 F H F' H' : Hp} {D D' : Ends} {sp : SpO} {ρ : Env_} {σ : L2.St}
theorem Nxt.le {k : L2.St → Hp → Prop} (l : Le F F') (h : Nxt K as F0 H0 F sp ρ k) : Nxt K as F0 H0 F' sp ρ k := fun σ' F2 H2 l2 r => h σ' F2 H2 (l.trans l2) r
theorem PVs.le {o : Out Fl} (l : Le F F') (p : PVs K as mg E F0 H0 F D o) : PVs K as mg E F0 H0 F' D o := by
  cases o with
  | ok fl sp => cases fl <;> first | exact Nxt.le l p | exact p
  | exc e sp => exact p
  | bad => exact p
/-- a step of an expression, then the rest -/
theorem stepV {m : Md} {o : Out Sl} {f : Sl → SpO → Out Fl} (g0 : Gr as F0 H0 F H) (p : PVs K as mg E F0 H0 F D (o.bind f)) :
    PV m K as mg E F H (fun v H1 => ∃ F' s sp, o = .ok s sp ∧ Gr as F H F' H1 ∧ SpAt as sp H1 ∧ VM m K as H F' H1 s v ∧ PVs K as mg E F0 H0 F' D (f s sp)) o := by
  cases o with
  | ok s sp => exact fun v F' H' g q r => ⟨F', s, sp, rfl, g, q, r, p.le g.sub⟩
  | exc e sp => exact fun c d F2 H2 g q r => p c d F2 H2 (g0.trans g) q r
  | bad => exact p
theorem stepT {o : Out Bool} {f : Bool → SpO → Out Fl} (g0 : Gr as F0 H0 F H) (p : PVs K as mg E F0 H0 F D (o.bind f)) :
    PVt K as mg E F H (fun b H1 => ∃ F' sp, o = .ok b sp ∧ Gr as F H F' H1 ∧ SpAt as sp H1 ∧ PVs K as mg E F0 H0 F' D (f b sp)) o := by
  cases o with
  | ok s sp => exact fun F' H' g q => ⟨F', sp, rfl, g, q, p.le g.sub⟩
  | exc e sp => exact fun c d F2 H2 g q r => p c d F2 H2 (g0.trans g) q r
  | bad => exact p
theorem stepA {m : Md} {o : Out (List Sl)} {f : List Sl → SpO → Out Fl} (g0 : Gr as F0 H0 F H) (p : PVs K as mg E F0 H0 F D (o.bind f)) :
    PVa m K as mg E F H (fun vs H1 => ∃ F' ss sp, o = .ok ss sp ∧ Gr as F H F' H1 ∧ SpAt as sp H1 ∧ Side m K as H F' H1 ss vs ∧ PVs K as mg E F0 H0 F' D (f ss sp)) o := by
  cases o with
  | ok s sp => exact fun v F' H' g q r => ⟨F', s, sp, rfl, g, q, r, p.le g.sub⟩
  | exc e sp => exact fun c d F2 H2 g q r => p c d F2 H2 (g0.trans g) q r
  | bad => exact p
theorem stepI {b : Bool} {o : Out (List PyData)} {f : List PyData → SpO → Out Fl} (g0 : Gr as F0 H0 F H) (p : PVs K as mg E F0 H0 F D (o.bind f)) :
    PVi b K as mg E F H (fun J H1 => ∃ F' ys sp, o = .ok ys sp ∧ Gr as F H F' H1 ∧ SpAt as sp H1 ∧ DIs K as J (Kp b as F' H1) ys ∧ PVs K as mg E F0 H0 F' D (f ys sp)) o := by
  cases o with
  | ok s sp => exact fun J F' H' g q r => ⟨F', s, sp, rfl, g, q, r, p.le g.sub⟩
  | exc e sp => exact fun c d F2 H2 g q r => p c d F2 H2 (g0.trans g) q r
  | bad => exact p
/-- a value goes into a name -/
theorem Rl.asg {F1 H1 : Hp} {sp1 : SpO} {s : Sl} {v : V} {i : Nat} (rl : Rl K as F0 H0 F H sp ρ σ) (g : Gr as F H F1 H1) (q : SpAt as sp1 H1) (vm : VM .vl K as H F1 H1 s v) (hi : i < σ.length) : Rl K as F0 H0 F1 H1 sp1 (ρ.set i s) (σ.set i (some v)) := by
  have r1 := rl.go g q
  refine r1.set hi vm.1 (fun o a e => rl.gr.tr a (vm.2.1 (by intro e; cases e) o a e)) fun o j t a e ot _ ev hs => ?_
  have hn := vm.2.1 (by intro e; cases e) o a ev
  obtain ⟨w, h1, h2, _⟩ := rl.slot j t e (own_un ot)
  rw [hs] at h1
  cases h1
  exact h2.there ot rfl hn
end
section
variable {X : Cx} {as : Option Addr} {E : XK} {st : Stmt} {sts s1 s2 : List Stmt} {t u : DS} {e c tg : Expr} {es : List Expr} {te : DE} {tc : DT} {ta : DA} {ti : DI} {g : GD} {vs : List Nat} {i j k : Nat} {x y : Str} {pos p p2 px py pt pos' : Pos}
theorem pds_bad : PDs X as E st dBad := ⟨⟨fun _ _ _ _ _ _ ⟨_, _, _, _, _, _, p⟩ => p.elim⟩⟩
theorem pdss_bad : PDss X as E sts dBad := ⟨⟨fun _ _ _ _ _ _ ⟨_, _, _, _, _, _, p⟩ => p.elim⟩⟩
theorem pdss_nil : PDss X as E [] dNext := ⟨⟨fun pins s σ H D I ⟨F0, H0, F, ρ, sp, rl, p⟩ => pss_nil.run pins s σ H D I (p σ F H (Le.refl F) rl)⟩⟩
theorem pdss_cons (h1 : PDs X as E st t) (h2 : PDss X as E sts u) : PDss X as E (st :: sts) (dSeq t u) := by
  refine ⟨⟨fun pins s σ H D I ⟨F0, H0, F, ρ, sp, rl, p⟩ => (pss_cons h1.ps h2.ps).run pins s σ H D I ⟨F0, H0, F, ρ, sp, rl, ?_⟩⟩⟩
  unfold dSeq at p
  cases h : t ρ sp with
  | ok fl sp1 =>
    rw [h] at p
    cases fl with
    | nx ρ1 => exact fun σ' F' H' l r => ⟨F0, H0, F', ρ1, sp1, r, p.le l⟩
    | rt s => exact p
    | bk ρ1 => exact p
    | ct ρ1 => exact p
  | exc x sp1 => rw [h] at p; exact p
  | bad => rw [h] at p; exact p
theorem pdss_one (h1 : PDs X as E st t) : PDss X as E [st] t := ⟨pss_one h1.ps⟩
theorem pds_pass : PDs X as E (.Pass pos) dNext := ⟨⟨fun pins s σ H D I ⟨F0, H0, F, ρ, sp, rl, p⟩ => ps_pass.run pins s σ H D I (p σ F H (Le.refl F) rl)⟩⟩
theorem pds_doc {z : Str} {n : Nat} : PDs X as E (.Expr (.Constant (.str z) n pos) pos') dNext := ⟨⟨fun pins s σ H D I ⟨F0, H0, F, ρ, sp, rl, p⟩ => ps_doc.run pins s σ H D I (p σ F H (Le.refl F) rl)⟩⟩
theorem pds_break : PDs X as E (.Break pos) (fun ρ sp => .ok (.bk ρ) sp) := ⟨⟨fun pins s σ H D I ⟨F0, H0, F, ρ, sp, rl, p⟩ => ps_break.run pins s σ H D I (p σ F H (Le.refl F) rl)⟩⟩
theorem pds_continue : PDs X as E (.Continue pos) (fun ρ sp => .ok (.ct ρ) sp) := ⟨⟨fun pins s σ H D I ⟨F0, H0, F, ρ, sp, rl, p⟩ => ps_continue.run pins s σ H D I (p σ F H (Le.refl F) rl)⟩⟩
theorem pds_if (hc : PDt X as E c tc) (h1 : PDss X as E s1 t) (h2 : PDss X as E s2 u) : PDs X as E (.If c s1 s2 pos) (dIfS tc t u) := by
  refine ⟨⟨fun pins s σ H D I ⟨F0, H0, F, ρ, sp, rl, p⟩ => (ps_if hc.pt h1.ps h2.ps).run pins s σ H D I ⟨F0, H0, F, ρ, sp, rl, PVt.imp (stepT rl.gr p) fun b H1 ⟨F1, sp1, e1, g1, q1, p2⟩ => ?_⟩⟩⟩
  cases b with
  | true => exact ⟨F0, H0, F1, ρ, sp1, rl.go g1 q1, p2⟩
  | false => exact ⟨F0, H0, F1, ρ, sp1, rl.go g1 q1, p2⟩
theorem len_of {pins : List (Addr × Obj)} {s : Shared} {σ : L2.St} {H : Hp} (I : Inv X pins σ H s) (hi : X.N[i]? = some x) : i < σ.length := by
  rw [I.len]
  exact (List.getElem?_eq_some_iff.mp hi).1
theorem pds_expr (he : PD .rd X as E e te) (hs : swapsWith e none pos.line X.env = pure false := by rfl) : PDs X as E (.Expr e pos) (dDrop te) :=
  ⟨⟨fun pins s σ H D I ⟨F0, H0, F, ρ, sp, rl, p⟩ => (ps_expr he.pe hs).run pins s σ H D I ⟨F0, H0, F, ρ, sp, rl, PV.imp (stepV rl.gr p) fun v H1 ⟨F1, s, sp1, e1, g1, q1, r1, p2⟩ => p2 σ F1 H1 (Le.refl _) (rl.go g1 q1)⟩⟩⟩
theorem pds_ret (he : PD .vl X as E e te) : PDs X as E (.Return (some e) pos) (dRet te) :=
  ⟨⟨fun pins s σ H D I ⟨F0, H0, F, ρ, sp, rl, p⟩ => (ps_ret he.pe).run pins s σ H D I ⟨F0, H0, F, ρ, sp, rl, PV.imp (stepV rl.gr p) fun v H1 ⟨F1, s, sp1, e1, g1, q1, r1, p2⟩ => p2 v F1 H1 (rl.gr.trans g1) q1 (r1.back rl.gr.tr)⟩⟩⟩
theorem pds_retN : PDs X as E (.Return none pos) dRetN := ⟨⟨fun pins s σ H D I ⟨F0, H0, F, ρ, sp, rl, p⟩ => ps_retN.run pins s σ H D I (p .non F H rl.gr rl.sp (VM.of_dat .non))⟩⟩
theorem pds_retV (hN : X.N[i]? = some x) (hv : Vis X.env.scope x) (hd : (x == ("__debug__" : Str)) = false := by decide) (hcd : (x == ("__classdict__" : Str)) = false := by decide) : PDs X as E (.Return (some (.Name x p)) pos) (dRetV i) := by
  refine ⟨⟨fun pins s σ H D I ⟨F0, H0, F, ρ, sp, rl, p⟩ => (ps_ret (pe_var hN hv hd hcd)).run pins s σ H D I ?_⟩⟩
  unfold dRetV at p
  cases q : ρ[i]? with
  | none => rw [q] at p; exact p.elim
  | some s =>
    rw [q] at p
    have h := rl.slot i s q
    cases s with
    | dat d => obtain ⟨v, h1, h2, h3⟩ := h (fun e => nomatch e); exact ⟨v, h1, p v F H rl.gr rl.sp (VM.of_dat h2)⟩
    | ol xs => obtain ⟨v, h1, h2, h3⟩ := h (fun e => nomatch e); exact ⟨v, h1, p v F H rl.gr rl.sp ⟨h2, fun _ => h3, fun _ e => nomatch e⟩⟩
    | od xs => obtain ⟨v, h1, h2, h3⟩ := h (fun e => nomatch e); exact ⟨v, h1, p v F H rl.gr rl.sp ⟨h2, fun _ => h3, fun _ e => nomatch e⟩⟩
    | _ => exact p.elim
/-- name = value, by any rule for the statement -/
theorem set_by {te' : TE} (h : PS X st (tAsg te' (gName i))) (hi : X.N[i]? = some x) (imp : ∀ σ H Q F0 H0 F ρ sp, Rl X.K as F0 H0 F H sp ρ σ → PV .vl X.K as X.mg E F H Q (te ρ sp) → te' σ H Q) : PDs X as E st (dSet i te) :=
  ⟨⟨fun pins s σ H D I ⟨F0, H0, F, ρ, sp, rl, p⟩ => h.run pins s σ H D I (imp σ H _ F0 H0 F ρ sp rl (PV.imp (stepV rl.gr p) fun v H1 ⟨F1, s, sp1, e1, g1, q1, r1, p2⟩ => p2 _ F1 H1 (Le.refl _) (rl.asg g1 q1 r1 (len_of I hi))))⟩⟩
theorem pds_set (hN : X.N.Nodup) (hi : X.N[i]? = some x) (hx : Loc X.env.scope x) (he : PD .vl X as E e te) (hs : swapsWith e (some (.Name x pos')) pos.line X.env = pure false := by rfl) (hf : X.fn x = true ∨ X.env.scope.names.lookup x = some .local := by first | exact .inl rfl | exact .inr rfl | assumption) :
    PDs X as E (.Assign [.Name x pos'] e pos) (dSet i te) := set_by (ps_set hN hi hx he.pe hs hf) hi fun σ H Q F0 H0 F ρ sp rl p => ⟨F0, H0, F, ρ, sp, rl, p⟩
/-- a value, kept as data -/
theorem keepD {K : PySem.W.Frag} {F H F1 H1 : Hp} {s : Sl} {v : V} {d : D} (g : Gr as F H F1 H1) (vm : VM .vl K as H F1 H1 s v) (e : s.d? = some d) : ∃ F2, Gr as F H F2 H1 ∧ Le F1 F2 ∧ Rp K F2 v d :=
  ⟨fz (fun a => s.own = true ∧ v = .ref a) F1 H1, g.fz fun a q => vm.2.1 (by intro e; cases e) q.1 a q.2, fz_sub g.le, VR.fz g.le vm.1 e fun o a e2 => ⟨o, e2⟩⟩
theorem pds_asg (he : PD .vl X as E e te) (hg : PDg X as tg g vs) (hs : swapsWithSole [tg] e pos.line X.env = pure false := by rfl) (hw : swappedStores [tg] e X.env = pure none := by rfl) (h1 : (assignEach [tg] X.env).map (·.2) = [assign tg X.env] := by rfl) :
    PDs X as E (.Assign [tg] e pos) (dAsg g te) := by
  refine ⟨⟨fun pins s σ H D I ⟨F0, H0, F, ρ, sp, rl, p⟩ => (ps_asg he.pe hg.pg hs hw h1).run pins s σ H D I ⟨F0, H0, F, ρ, sp, rl, PV.imp (stepV rl.gr p) fun v H1 ⟨F1, s, sp1, e1, g1, q1, r1, p2⟩ => ?_⟩⟩⟩
  cases zd : s.d? with
  | none => rw [zd] at p2; exact p2.elim
  | some d =>
    rw [zd] at p2
    dsimp only at p2
    obtain ⟨F2, g2, l2, rp⟩ := keepD g1 r1 zd
    cases zg : g d ρ with
    | none => rw [zg] at p2; exact p2.elim
    | some ρ' =>
      rw [zg] at p2
      exact ⟨F0, H0, F2, ρ, sp1, d, ρ', rl.go g2 q1, rp, zg, fun σ' r' _ _ => p2 σ' F2 H1 l2 r'⟩
theorem pds_par {a b : Expr} {kt k2 : Nat} {pt2 : Pos} (hc : X.calm = true) (hN : X.N.Nodup) (hi : X.N[i]? = some x) (hj : X.N[j]? = some y) (hij : i ≠ j) (hx : X.env.scope.names.lookup x = some .local) (hy : X.env.scope.names.lookup y = some .local) (ha : PDa .vl X as E [a, b] ta)
    (hw : swappedStores [.Tuple [.Name x px, .Name y py] kt pt] (.Tuple [a, b] k2 pt2) X.env = pure (some [x, y])) (hs : swapsWithSole [.Tuple [.Name x px, .Name y py] kt pt] (.Tuple [a, b] k2 pt2) pos.line X.env = pure false := by rfl) :
    PDs X as E (.Assign [.Tuple [.Name x px, .Name y py] kt pt] (.Tuple [a, b] k2 pt2) pos) (dPar i j ta) := by
  refine ⟨⟨fun pins s σ H D I ⟨F0, H0, F, ρ, sp, rl, p⟩ => (ps_par hc hN hi hj hij hx hy ha.pa hw hs).run pins s σ H D I ⟨F0, H0, F, ρ, sp, rl, PVa.imp (stepA rl.gr p) fun ws H1 ⟨F1, ss, sp1, e1, g1, q1, r1, p2⟩ => ?_⟩⟩⟩
  split at p2
  · rename_i s t
    obtain ⟨v, w, rfl, hv, hw⟩ := pr2 (P := VM .vl X.K as H F1 H1) r1.1
    refine ⟨v, w, rfl, ?_⟩
    refine p2 _ F1 H1 (Le.refl _) ?_
    have hli := len_of I hi
    have hlj := len_of I hj
    have ra := rl.asg g1 q1 hv hli
    refine ra.set (by rw [List.length_set]; exact hlj) hw.1 (fun o a e => rl.gr.tr a (hw.2.1 (by intro e; cases e) o a e)) fun o l u a e ou _ ev hs => ?_
    by_cases hl : i = l
    · subst hl
      by_cases hb : i < ρ.length
      · rw [List.getElem?_set_self hb] at e
        cases e
        rw [List.getElem?_set_self hli] at hs
        have ev2 := Option.some.inj (Option.some.inj hs)
        have := r1.2 (by intro e; cases e) 0 1 s t a rfl rfl ou o (by rw [← ev2]; rfl) (by rw [← ev]; rfl)
        cases this
      · rw [List.getElem?_eq_none (by simpa using hb)] at e; cases e
    · rw [List.getElem?_set_ne hl] at e hs
      have hn := hw.2.1 (by intro e; cases e) o a ev
      obtain ⟨w', h1, h2, _⟩ := rl.slot l u e (own_un ou)
      rw [hs] at h1
      cases h1
      exact h2.there ou rfl hn
  · exact p2.elim
/-! the spring -/
theorem spr_at {K : PySem.W.Frag} {F0 H0 F H : Hp} {ρ : Env_} {σ : L2.St} {t : Int × Int × Int} (rl : Rl K as F0 H0 F H (some t) ρ σ) (q : ρ[i]? = some .spr) : ∃ a, σ[i]? = some (some (V.ref a)) ∧ as = some a ∧ H a = some (.lst [.int t.1, .int t.2.1, .int t.2.2]) := by
  obtain ⟨v, h1, ⟨a, rfl, ea⟩, _⟩ := rl.slot i _ q (fun e => nomatch e)
  refine ⟨a, h1, ea, ?_⟩
  have := rl.sp
  subst ea
  exact this
theorem setK_lst {k : Nat} {v : Int} {t : Int × Int × Int} (hk : k < 3) : ∃ t', setK k v t = some t' ∧ ([.int t.1, .int t.2.1, .int t.2.2] : List V).set k (.int v) = [.int t'.1, .int t'.2.1, .int t'.2.2] ∧ ixN 3 ((k : Nat) : Int) = some k := by
  obtain ⟨a, b, c⟩ := t
  rcases (by omega : k = 0 ∨ k = 1 ∨ k = 2) with rfl | rfl | rfl <;> exact ⟨_, rfl, rfl, by decide⟩
/-- the spring is written -/
theorem Rl.spring {K : PySem.W.Frag} {F0 H0 F H : Hp} {ρ : Env_} {σ : L2.St} {t t' : Int × Int × Int} {a : Addr} (rl : Rl K as F0 H0 F H (some t) ρ σ) (ea : as = some a) (ha : H a = some (.lst [.int t.1, .int t.2.1, .int t.2.2])) :
    Rl K as F0 H0 F (upd H a (.lst [.int t'.1, .int t'.2.1, .int t'.2.2])) (some t') ρ σ := by
  have hF : F a = none := rl.nas a ea
  have g : Gr as F H F (upd H a (.lst [.int t'.1, .int t'.2.1, .int t'.2.2])) := by
    refine ⟨fun b o n e => ?_, fun b e => ?_, Le.refl _, fun b o e => ?_, fun b o e => .inl ⟨o, e⟩⟩
    · rw [upd_ne fun q => n (by rw [ea, q])]; exact e
    · by_cases q : b = a
      · rw [q, upd_same] at e; cases e
      · rw [upd_ne q] at e; exact e
    · rw [upd_ne fun q => by rw [q, hF] at e; cases e]; exact rl.le b o e
  refine rl.go g ?_
  subst ea
  exact upd_same
theorem pds_spr {n : Nat} (hN : X.N[i]? = some x) (hv : Vis X.env.scope x) (he : PD .rd X as E e te) (hd : (x == ("__debug__" : Str)) = false := by decide) (hcd : (x == ("__classdict__" : Str)) = false := by decide)
    (hsub : ∀ v : Value, assign (.Subscript (.Name x p) (.Constant (.int (k : Nat)) n p2) pt) X.env v = (do
      let ov ← holding [v] (eval (.Name x p) X.env)
      let iv ← holding [v, ov] (eval (.Constant (.int (k : Nat)) n p2) X.env)
      standAt pt
      holding [v, ov, iv] (setItem ov iv v)
      release [v, ov, iv] []) := by intro _; rfl) (hs : swapsWithSole [.Subscript (.Name x p) (.Constant (.int (k : Nat)) n p2) pt] e pos.line X.env = pure false := by rfl) (hw : swappedStores [.Subscript (.Name x p) (.Constant (.int (k : Nat)) n p2) pt] e X.env = pure none := by rfl) :
    PDs X as E (.Assign [.Subscript (.Name x p) (.Constant (.int (k : Nat)) n p2) pt] e pos) (dSprSet i k te) := by
  refine ⟨⟨fun pins s σ H D I ⟨F0, H0, F, ρ, sp, rl, pp⟩ => (ps_asg he.pe (pg_sub (pe_var hN hv hd hcd) pe_int set_list hsub) hs hw).run pins s σ H D I ⟨F0, H0, F, ρ, sp, rl, PV.imp (stepV rl.gr pp) fun v H1 ⟨F1, s, sp1, e1, g1, q1, r1, p2⟩ => ?_⟩⟩⟩
  have rl1 := rl.go g1 q1
  split at p2
  · rename_i z w y q
    split at p2
    · rename_i hk
      obtain rfl := (Rd.of (d := .int _) rfl r1.1).int
      obtain ⟨a, h1, ea, h3⟩ := spr_at rl1 q
      obtain ⟨t', k1, k2, k3⟩ := setK_lst (k := k) (v := w) (t := y) hk
      rw [k1] at p2
      refine ⟨.ref a, h1, a, _, _, k, rfl, rfl, h3, k3, ?_⟩
      rw [k2]
      exact p2 σ F1 _ (Le.refl _) (rl1.spring ea h3)
    · exact p2.elim
  · exact p2.elim
theorem pds_sprPair {n kt : Nat} (hc : X.calm = true) (hNd : X.N.Nodup) (hN : X.N[i]? = some x) (hv : Vis X.env.scope x) (hj : X.N[j]? = some y) (hy : Loc X.env.scope y) (he : PD .vl X as E e te) (hd : (x == ("__debug__" : Str)) = false := by decide) (hcd : (x == ("__classdict__" : Str)) = false := by decide)
    (hf : X.fn y = true ∨ X.env.scope.names.lookup y = some .local := by first | exact .inl rfl | exact .inr rfl | assumption)
    (hsub : ∀ v : Value, assign (.Subscript (.Name x p) (.Constant (.int (k : Nat)) n p2) pt) X.env v = (do
      let ov ← holding [v] (eval (.Name x p) X.env)
      let iv ← holding [v, ov] (eval (.Constant (.int (k : Nat)) n p2) X.env)
      standAt pt
      holding [v, ov, iv] (setItem ov iv v)
      release [v, ov, iv] []) := by intro _; rfl)
    (hs : swapsWithSole [.Tuple [.Subscript (.Name x p) (.Constant (.int (k : Nat)) n p2) pt, .Name y py] kt px] e pos.line X.env = pure false := by rfl) (hw : swappedStores [.Tuple [.Subscript (.Name x p) (.Constant (.int (k : Nat)) n p2) pt, .Name y py] kt px] e X.env = pure none := by rfl) :
    PDs X as E (.Assign [.Tuple [.Subscript (.Name x p) (.Constant (.int (k : Nat)) n p2) pt, .Name y py] kt px] e pos) (dSprPair i k j te) := by
  refine ⟨⟨fun pins s σ H D I ⟨F0, H0, F, ρ, sp, rl, pp⟩ => (ps_asg he.pe (pg_tup (n := 2) hc (pgs_cons (pg_sub (pe_var hN hv hd hcd) pe_int set_list hsub) (pgs_cons (pg_name hNd hj hy hf) pgs_nil))) hs hw).run pins s σ H D I ⟨F0, H0, F, ρ, sp, rl, PV.imp (stepV rl.gr pp) fun v H1 ⟨F1, s, sp1, e1, g1, q1, r1, p2⟩ => ?_⟩⟩⟩
  split at p2
  · rename_i z w d y q
    split at p2
    · rename_i hk
      obtain ⟨F2, g2, l2, rp⟩ := keepD (d := .tuple [.int w, d]) g1 r1 rfl
      have rl2 := rl.go g2 q1
      obtain ⟨a, h1, ea, h3⟩ := spr_at rl2 q
      obtain ⟨t', k1, k2, k3⟩ := setK_lst (k := k) (v := w) (t := y) hk
      rw [k1] at p2
      cases rp with
      | tup hs rr =>
        cases rr with
        | cons r3 rr =>
          cases r3
          cases rr with
          | cons r4 rr =>
            cases rr
            refine ⟨_, _, rfl, rl2.le.sqT hs, rfl, _, _, rfl, ⟨.ref a, h1, a, _, _, k, rfl, rfl, h3, k3, ?_⟩⟩
            rw [k2]
            refine ⟨_, _, rfl, ?_⟩
            refine ⟨rfl, p2 _ F2 _ l2 ((rl2.spring ea h3).setD (len_of I hj) r4)⟩
    · exact p2.elim
  · exact p2.elim
theorem pds_augI {op : Operator} {f : Int → Int → Int} (ho : PIp X op (ipI f)) (hN : X.N.Nodup) (hi : X.N[i]? = some x) (hx : Loc X.env.scope x) (he : PD .rd X as E e te) (hf : X.fn x = true ∨ X.env.scope.names.lookup x = some .local := by first | exact .inl rfl | exact .inr rfl | assumption) :
    PDs X as E (.AugAssign (.Name x pos') op e pos) (dAugI f i te) := by
  refine ⟨⟨fun pins s σ H D I ⟨F0, H0, F, ρ, sp, rl, p⟩ => (ps_aug hN hi hx he.pe ho hf).run pins s σ H D I ?_⟩⟩
  unfold dAugI at p
  split at p
  · rename_i z q
    obtain ⟨v, h1, h2, _⟩ := rl.slot i _ q (fun e => nomatch e)
    obtain rfl := (Rd.of (d := .int _) (as := as) (H := H) rfl h2).int
    refine ⟨_, h1, F0, H0, F, ρ, sp, rl, PV.imp (stepV rl.gr p) fun v H1 ⟨F1, s, sp1, e1, g1, q1, r1, p2⟩ => ?_⟩
    split at p2
    · obtain rfl := (Rd.of (d := .int _) rfl r1.1).int
      exact ⟨_, _, rfl, rfl, p2 _ F1 H1 (Le.refl _) ((rl.go g1 q1).setD (len_of I hi) (.int _))⟩
    · exact p2.elim
  · exact p.elim
/-! loops -/
theorem pds_for {iter : Expr} (hp : PassesOwn (model X.prog X.w) X.A X.env X.xe) (hc : X.calm = true) (hi : PDi false X as E tg iter ti) (hg : PDg X as tg g vs) (hb : PDss X as E sts t) (hs : ∀ x, foldedSetIterable iter X.env x = pure x := by intro _; rfl) :
    PDs X as E (.For tg iter sts [] pos) (dFor ti g t) := by
  refine ⟨⟨fun pins s σ H D I ⟨F0, H0, F, ρ, sp, rl, p⟩ => (ps_for hp hc hi.pi hg.pg hb.ps hs).run pins s σ H D I ⟨F0, H0, F, ρ, sp, rl, PVi.imp (stepI rl.gr p) fun J H1 ⟨F1, ys, sp1, e1, g1, q1, dis, p2⟩ => ?_⟩⟩⟩
  refine ⟨fun i m σ H => i ≤ ys.length ∧ m = ys.length - i ∧ ∃ Fc ρc spc, Le F1 Fc ∧ Rl X.K as F0 H0 Fc H spc ρc σ ∧ PVs X.K as X.mg E F0 H0 Fc D (forGo g t (ys.drop i) ρc spc), ⟨_, Nat.zero_le _, rfl, F1, ρ, sp1, Le.refl _, rl.go g1 q1, p2⟩, fun i m σ H ⟨hle, hm, Fc, ρc, spc, l, r, p3⟩ => ?_⟩
  have kp : Kp false as F1 H1 Fc H := l
  rcases Nat.lt_or_eq_of_le hle with hlt | heq
  · right
    obtain ⟨y, hy⟩ := get_lt hlt
    have hdr : ys.drop i = y :: ys.drop (i + 1) := by
      rw [List.drop_eq_getElem_cons hlt]
      rw [List.getElem?_eq_getElem hlt] at hy
      cases hy
      rfl
    rw [hdr] at p3
    unfold forGo at p3
    refine ⟨dis.go Fc H kp r.le i hlt, fun σ' H' => ∃ F5 ρ5 sp5, Le Fc F5 ∧ Rl X.K as F0 H0 F5 H' sp5 ρ5 σ' ∧ PVs X.K as X.mg E F0 H0 F5 D (forGo g t (ys.drop (i + 1)) ρ5 sp5), fun σ' H' ⟨F5, ρ5, sp5, l5, r5, p5⟩ => ⟨_, by omega, hlt, rfl, F5, ρ5, sp5, l.trans l5, r5, p5⟩, fun x H' hyl => ?_⟩
    obtain ⟨F2, g2, l2, rx⟩ := dis.yld Fc H i x H' y kp r.le hyl hy
    cases hgy : g y ρc with
    | none => rw [hgy] at p3; exact p3.elim
    | some ρ2 =>
      rw [hgy] at p3
      dsimp only at p3
      refine ⟨F0, H0, F2, ρc, spc, y, ρ2, r.go g2 (r.sp.keep l2), rx, hgy, fun σ2 r2 _ _ => ⟨F0, H0, F2, ρ2, spc, r2, ?_⟩⟩
      cases h : t ρ2 spc with
      | ok fl sp3 =>
        rw [h] at p3
        have p4 := p3.le g2.sub
        cases fl with
        | nx ρ3 => exact fun σ' F' H' l' r' => ⟨F', ρ3, sp3, g2.sub.trans l', r', p4.le l'⟩
        | ct ρ3 => exact fun σ' F' H' l' r' => ⟨F', ρ3, sp3, g2.sub.trans l', r', p4.le l'⟩
        | bk ρ3 => exact p4
        | rt s => exact p4
      | exc x sp3 => rw [h] at p3; exact p3
      | bad => rw [h] at p3; exact p3
  · left
    refine ⟨dis.stop Fc H kp r.le i (Nat.le_of_eq heq.symm), ?_⟩
    rw [heq, List.drop_length] at p3
    exact p3 σ Fc H (Le.refl _) r
theorem pds_while (n : Nat) (hp : PassesOwn (model X.prog X.w) X.A X.env X.xe) (hc : PDt X as E c tc) (hb : PDss X as E sts t) : PDs X as E (.While c sts [] pos) (dWhile n tc t) := by
  refine ⟨⟨fun pins s σ H D I ⟨F0, H0, F, ρ, sp, rl, p⟩ => (ps_while hp hc.pt hb.ps).run pins s σ H D I ?_⟩⟩
  refine ⟨fun m σ H => ∃ F ρ sp, Rl X.K as F0 H0 F H sp ρ σ ∧ PVs X.K as X.mg E F0 H0 F D (whGo tc t m ρ sp), ⟨n, F, ρ, sp, rl, p⟩, fun m σ H ⟨F, ρ, sp, rl, p⟩ => ?_⟩
  cases m with
  | zero => exact p.elim
  | succ m =>
    unfold whGo at p
    refine ⟨F0, H0, F, ρ, sp, rl, PVt.imp (stepT rl.gr p) fun b H1 ⟨F1, sp1, e1, g1, q1, p2⟩ => ?_⟩
    cases b with
    | false => exact p2 σ F1 H1 (Le.refl _) (rl.go g1 q1)
    | true =>
      rw [if_pos rfl] at p2 ⊢
      refine ⟨fun σ' H' => ∃ F ρ sp, Rl X.K as F0 H0 F H' sp ρ σ' ∧ PVs X.K as X.mg E F0 H0 F D (whGo tc t m ρ sp), fun σ' H' h => ⟨m, Nat.lt_succ_self m, h⟩, F0, H0, F1, ρ, sp1, rl.go g1 q1, ?_⟩
      cases h : t ρ sp1 with
      | ok fl sp3 =>
        rw [h] at p2
        cases fl with
        | nx ρ3 => exact fun σ' F' H' l' r' => ⟨F', ρ3, sp3, r', p2.le l'⟩
        | ct ρ3 => exact fun σ' F' H' l' r' => ⟨F', ρ3, sp3, r', p2.le l'⟩
        | bk ρ3 => exact p2
        | rt s => exact p2
      | exc x sp3 => rw [h] at p2; exact p2
      | bad => rw [h] at p2; exact p2
end
/-! ### a def's promise -/
def mirOf (n : Nat) (t : DS) : Mir := fun args sp => (t (args ++ List.replicate n .un) sp).bind fun fl sp1 => match fl with
  | .rt s => .ok s sp1
  | .nx _ => .ok (.dat .none) sp1
  | _ => .bad
section
variable {P : Program} {w : World} {K : PySem.W.Frag} {mg : Str → Option Value} {base : Heap} {x qual : Str} {params : Arguments} {body : List Stmt} {scope : Scope} {dvs : List V} {kws : List (Str × V)} {f : Addr} {fd : FuncData}
theorem rl_start {as : Option Addr} {F H : Hp} {sp : SpO} {args : List Sl} {vs : List V} {N : List Str} {n : Nat} (l : Le F H) (q : SpAt as sp H) (hn : ∀ a, as = some a → F a = none) (r : Paired (ArgR K as F) args vs) : Rl K as F H F H sp (args ++ List.replicate n .un) (start N vs) where
  gr := Gr.refl l
  sp := q
  nas := hn
  slot := fun i s e ns => by
    by_cases hi : i < args.length
    · rw [List.getElem?_append_left hi] at e
      obtain ⟨v, h1, h2⟩ := pairAt r e
      have hl := r.length
      refine ⟨v, ?_, ?_, ?_⟩
      · unfold L2.start
        rw [List.getElem?_append_left (by rw [List.length_map, ← hl]; exact hi), List.getElem?_map, h1]
        rfl
      · cases s <;> first | exact h2 | exact h2.elim
      · intro o; cases s <;> first | exact h2.elim | cases o
    · rw [List.getElem?_append_right (by omega), List.getElem?_replicate] at e
      split at e
      · cases e; exact absurd rfl ns
      · cases e
  dis := fun i j s t a e1 e2 o1 o2 v1 v2 => by
    by_cases hi : i < args.length
    · rw [List.getElem?_append_left hi] at e1
      obtain ⟨v, h1, h2⟩ := pairAt r e1
      cases s <;> first | exact h2.elim | cases o1
    · rw [List.getElem?_append_right (by omega), List.getElem?_replicate] at e1
      split at e1
      · cases e1; cases o1
      · cases e1
/-- a def, by the mirror of its body -/
theorem fnG_mir {N ps : List Str} {k n m : Nat} {t : DS} (Fd : FunD K x qual params body scope dvs kws f fd) (S : FnScope N ps scope) (hm : ps.length = m)
    (hb : ∀ (as : Option Addr) (cdv : Value) (A : Around) (outer : List Env) (s : Shared) (H : Hp) (E : XK), Room k (A.deeper (envOfC qual scope s.heap.objs.size f cdv)) → A.guards = some [] → PDss (cxG P w K mg base N qual scope f cdv A outer s H E) as E body t) :
    FnG P w K mg base (k + 1) f fd ps (spD K mg m (mirOf n t)) := by
  refine fnG_of Fd S (fun vs H Q E ⟨as, F, sp, args, hn, _, _, _, r, _⟩ => by rw [← r.length, hn, hm]) fun cdv A outer s H vs Q E room hgd ⟨as, F, sp, args, hn, l, q, hna, r, p⟩ => ?_
  refine ⟨_, (hb as cdv A outer s H E room hgd).ps, F, H, F, args ++ List.replicate n Sl.un, sp, rl_start (K := K) (N := N) (n := n) l q hna r, ?_⟩
  unfold mirOf at p
  cases h : t (args ++ List.replicate n .un) sp with
  | ok fl sp1 =>
    rw [h] at p
    cases fl with
    | nx ρ => exact fun σ' F' H' l' r' => p .non F' H' r'.gr r'.sp (VM.of_dat .non)
    | rt s => exact fun v F' H' g q r => p v F' H' g q r
    | bk ρ => exact p.elim
    | ct ρ => exact p.elim
  | exc e sp1 => rw [h] at p; exact fun c d F' H' g q r => p c d F' H' g q r
  | bad => rw [h] at p; exact p.elim
end
end Dn
namespace Dn
open PySem PySem.Spec PyProof.Rows L2

/-! ### x in s, s a set, a list, a tuple -/
def OpS (K : PySem.W.Frag) (r : R2) (g : Sl → Sl → Option Sl) : Prop :=
  ∀ (as : Option Addr) (F H : Hp) (x y : V) (s t : Sl) (z : Sl) (Q : VK), Le F H → VR K as F H s x → VR K as F H t y → g s t = some z → (∀ a, as = some a → H a ≠ none) → Cont K as F H z Q → r x y H Q
def dB2 (g : Sl → Sl → Option Sl) (ta tb : DE) : DE := fun ρ sp => (ta ρ sp).bind fun x sp1 => (tb ρ sp1).bind fun y sp2 => opt (g x y) sp2
def inOs (neg : Bool) (s : Sl) (ns : List Int) : Option Sl := match s with
  | .dat (.int i) => some (.dat (.bool (decide (i ∈ ns) != neg)))
  | _ => none
def inRg (neg : Bool) (s : Sl) (lo hi : Int) : Option Sl := match s with
  | .dat (.int i) => if neg = false then some (.dat (.bool (decide (lo ≤ i ∧ i < hi)))) else none
  | _ => none
def gInS (neg : Bool) (s t : Sl) : Option Sl := match t with
  | .os ns => inOs neg s ns
  | .rg lo hi => inRg neg s lo hi
  | t => un2 (if neg = true then gNotIn else gIn) s t
theorem OpD.ofS {K : PySem.W.Frag} {r : R2} {g : D → D → Option Sl} (h : OpD K r g) : OpS K r (un2 g) := fun as F H x y s t z Q l hx hy e n c => by
  obtain ⟨dx, dy, d1, d2, hz⟩ := un2_some e
  exact h as F H x y dx dy z Q l (Rd.of d1 hx) (Rd.of d2 hy) hz n c
section
variable {X : Cx} {as : Option Addr} {E : XK} {m : Md} {a b c e : Expr} {ta tb tc te : DE} {pos p p1 p2 p3 : Pos}
theorem two_goS {r : R2} {g : Sl → Sl → Option Sl} (hg : OpS X.K r g) {σ : L2.St} {H : Hp} {Q : VK} {F0 H0 F : Hp} {ρ : Env_} {sp : SpO} (rl : Rl X.K as F0 H0 F H sp ρ σ) (p : PV m X.K as X.mg E F H Q (dB2 g ta tb ρ sp)) :
    TD .rd X.K as X.mg E ta σ H fun x H1 => TD .rd X.K as X.mg E tb σ H1 fun y H2 => r x y H2 Q := by
  refine ⟨F0, H0, F, ρ, sp, rl, PV.imp (bindP (m' := .rd) p) fun x H1 ⟨F1, s, sp1, e1, g1, q1, r1, p2⟩ => ?_⟩
  refine ⟨F0, H0, F1, ρ, sp1, rl.go g1 q1, PV.imp (bindP (m' := .rd) (PV.go g1 p2)) fun y H2 ⟨F2, s2, sp2, e2, g2, q2, r2, p4⟩ => ?_⟩
  cases z : g s s2 with
  | none => rw [z] at p4; exact p4.elim
  | some w =>
    rw [z] at p4
    exact hg as F2 H2 x y s s2 w Q g2.le (r1.1.gr g2) r2.1 z q2.ne fun w' F' H' g3 k3 vm => p4 w' F' H' (g2.trans g3) (q2.keep k3) (vm.any.back g2.tr)
def rSet (neg : Bool) : R2 := fun x y H Q => ∃ i a S n, x = .int i ∧ y = .ref a ∧ H a = some (.set S n) ∧ Q (.bl (S i != neg)) H
theorem op_inSet : OpR X (compareOp .In) (rSet false) := by
  intro pins s σ H x y v u Q I rx ry ⟨i, a, S, n, ex, ey, h, q⟩
  subst ex ey
  obtain ⟨t, rfl⟩ := rx
  cases ry
  rw [Bool.bne_false] at q
  exact PySem.wpAny_inSet_of (knd := intKind X.prog X.w) (k := i) (PySem.W.isInt_self i t) rfl (I_set I h) ⟨.bl _, H, I.tok _, rfl, q⟩
theorem op_notInSet : OpR X (compareOp .NotIn) (rSet true) := by
  intro pins s σ H x y v u Q I rx ry ⟨i, a, S, n, ex, ey, h, q⟩
  subst ex ey
  obtain ⟨t, rfl⟩ := rx
  cases ry
  rw [Bool.bne_true] at q
  exact PySem.wpAny_notInSet_of (knd := intKind X.prog X.w) (k := i) (PySem.W.isInt_self i t) rfl (I_set I h) ⟨.bl _, H, I.tok _, rfl, q⟩
def rRg : R2 := fun x y H Q => ∃ i a lo hi, x = V.int i ∧ y = V.ref a ∧ H a = some (.rng lo hi) ∧ Q (.bl (decide (lo ≤ i ∧ i < hi))) H
theorem set_go {K : PySem.W.Frag} {F H : Hp} {x y : V} {s : Sl} {ns : List Int} {neg : Bool} {z : Sl} {Q : VK} (l : Le F H) (hx : VR K as F H s x) (hy : VR K as F H (.os ns) y) (e : inOs neg s ns = some z) (c : Cont K as F H z Q) : rSet neg x y H Q := by
  obtain ⟨a, S, n, rfl, h1, h2, h3, h4, h5⟩ := hy
  unfold inOs at e
  split at e
  · rename_i i
    obtain rfl := (Rd.of (d := .int _) rfl hx).int
    have hS : decide (i ∈ ns) = S i := by
      by_cases h : i ∈ ns
      · rw [decide_eq_true h, (h4 i).mpr h]
      · rw [decide_eq_false h]
        cases q : S i with
        | true => exact absurd ((h4 i).mp q) h
        | false => rfl
    rw [hS] at e
    exact ⟨i, a, S, n, rfl, rfl, h3, c.d e l (.bl _)⟩
  · cases e
theorem rg_go {K : PySem.W.Frag} {F H : Hp} {x y : V} {s : Sl} {lo hi : Int} {z : Sl} {Q : VK} (l : Le F H) (hx : VR K as F H s x) (hy : VR K as F H (.rg lo hi) y) (e : inRg false s lo hi = some z) (c : Cont K as F H z Q) : rRg x y H Q := by
  obtain ⟨a, rfl, h1, h2⟩ := hy
  unfold inRg at e
  split at e
  · rename_i i
    obtain rfl := (Rd.of (d := .int _) rfl hx).int
    rw [if_pos rfl] at e
    exact ⟨i, a, lo, hi, rfl, rfl, h2, c.d e l (.bl _)⟩
  · cases e
theorem gs_in : OpS X.K (fun x y H Q => rInS X.K false x y H Q ∨ rSet false x y H Q ∨ rRg x y H Q) (gInS false) := fun as F H x y s t z Q l hx hy e n c => by
  unfold gInS at e
  cases t with
  | os ns => exact .inr (.inl (set_go l hx hy e c))
  | rg lo hi => exact .inr (.inr (rg_go l hx hy e c))
  | _ => exact .inl (gd_in.ofS as F H x y s _ z Q l hx hy e n c)
theorem gs_notIn : OpS X.K (fun x y H Q => rInS X.K true x y H Q ∨ rSet true x y H Q) (gInS true) := fun as F H x y s t z Q l hx hy e n c => by
  unfold gInS at e
  cases t with
  | os ns => exact .inr (set_go l hx hy e c)
  | rg lo hi =>
    change inRg true s lo hi = some z at e
    unfold inRg at e
    split at e
    · rw [if_neg (by decide)] at e; cases e
    · cases e
  | _ => exact .inl (gd_notIn.ofS as F H x y s _ z Q l hx hy e n c)
theorem pd_inA (hu : X.A.units + 65 < cLine) (ha : PD .rd X as E a ta) (hb : PD .rd X as E b tb) (hm : behindInMarks .In b = false := by rfl) : PD m X as E (.Compare a [.In] [b] pos) (dB2 (gInS false) ta tb) :=
  PD.by (pe_cmpR ((op_inS hu).or (op_inSet.or op_in_rng)) ha.pe hb.pe hm) fun _ _ _ _ _ _ _ _ rl p => two_goS gs_in rl p
theorem pd_notInA (hu : X.A.units + 65 < cLine) (ha : PD .rd X as E a ta) (hb : PD .rd X as E b tb) (hm : behindInMarks .NotIn b = false := by rfl) : PD m X as E (.Compare a [.NotIn] [b] pos) (dB2 (gInS true) ta tb) :=
  PD.by (pe_cmpR ((op_notInS hu).or op_notInSet) ha.pe hb.pe hm) fun _ _ _ _ _ _ _ _ rl p => two_goS gs_notIn rl p
/-- a test, by its value -/
theorem pdt_val {r : TE → TE → Prop} {r2 : R2} {g : Sl → Sl → Option Sl} {op : CmpOp} (ho : OpR X (compareOp op) r2) (hg : OpS X.K r2 g) (ha : PD .rd X as E a ta) (hb : PD .rd X as E b tb) (hm : behindInMarks op b = false) : PDt X as E (.Compare a [op] [b] pos) (dTb (dB2 g ta tb)) :=
  PDt.by (pt_cmpR ho ha.pe hb.pe hm) fun σ H Q F0 H0 F ρ sp rl p => by
    refine two_goS (m := .rd) (Q := fun x H' => ∃ k, x = .bl k ∧ Q k H') hg rl (PV.imp (bindQ (m' := .rd) p.po) fun v H1 ⟨F1, s, sp1, e1, g1, q1, r1, p2⟩ => ?_)
    cases z : isB s with
    | none => rw [z] at p2; exact p2.elim
    | some k =>
      rw [z] at p2
      exact ⟨k, isB_v z r1.1, p2 F1 H1 g1 q1⟩
theorem pdt_inA (hu : X.A.units + 65 < cLine) (ha : PD .rd X as E a ta) (hb : PD .rd X as E b tb) (hm : behindInMarks .In b = false := by rfl) : PDt X as E (.Compare a [.In] [b] pos) (dTb (dB2 (gInS false) ta tb)) := pdt_val (r := fun _ _ => True) ((op_inS hu).or (op_inSet.or op_in_rng)) gs_in ha hb hm
theorem pdt_notInA (hu : X.A.units + 65 < cLine) (ha : PD .rd X as E a ta) (hb : PD .rd X as E b tb) (hm : behindInMarks .NotIn b = false := by rfl) : PDt X as E (.Compare a [.NotIn] [b] pos) (dTb (dB2 (gInS true) ta tb)) := pdt_val (r := fun _ _ => True) ((op_notInS hu).or op_notInSet) gs_notIn ha hb hm
end
/-! ### x[::-1] -/
def gRev : D → Option Sl
  | .list xs => some (.ol xs.reverse)
  | .tuple xs => some (.dat (.tuple xs.reverse))
  | _ => none
def dRev (te : DE) : DE := fun ρ sp => (te ρ sp).bind fun s sp1 => opt (un1 gRev s) sp1
section
variable {X : Cx} {as : Option Addr} {E : XK} {m : Md} {e : Expr} {te : DE} {to : TE} {pos p p1 p2 p3 : Pos} {k : Nat}
def tRevT (K : PySem.W.Frag) (te : TE) : TE := fun σ H Q => te σ H fun x H1 => ∃ a xs, x = .ref a ∧ SqT K H1 a xs ∧ ∀ p, H1 p = none → Q (.ref p) (upd H1 p (.tup xs.reverse))
theorem peRevT (he : PE X e to) : PE X (.Subscript e (.Slice none none (some (.UnaryOp .USub (.Constant (.int 1) k p1) p2)) p3) pos) (tRevT X.K to) := by
  refine ⟨fun pins s σ H Q I h => Subscript_ (thn (he.run pins s σ H _ I h) fun v s1 ⟨x, H1, I1, r1, a, xs, ex, hx, q⟩ => ?_)⟩
  subst ex
  cases r1
  have hstp : L2.PO X (some (.UnaryOp .USub (.Constant (.int 1) k p1) p2)) (tPart (tUn (rU fun i => .int (-i)) (tC (.int 1)))) := po_some (pe_un un_neg pe_int)
  refine wpAny_Slice (thn (po_none.run pins s1 σ H1 (fun o H2 => o = none ∧ H2 = H1) I1 ⟨rfl, rfl⟩) fun vl s2 ⟨l, H2, I2, pl, el, e2⟩ => ?_)
  subst el e2
  refine thn (po_none.run pins s2 σ H2 (fun o H3 => o = none ∧ H3 = H2) I2 ⟨rfl, rfl⟩) fun vu s3 ⟨u, H3, I3, pu, eu, e3⟩ => ?_
  subst eu e3
  refine thn (hstp.run pins s3 σ H3 (fun o H4 => o = some (-1) ∧ H4 = H3) I3 ⟨1, rfl, -1, rfl, rfl, rfl⟩) fun vs s4 ⟨o, H4, I4, ps, eo, e4⟩ => ?_
  subst eo e4
  have I5 : Inv X pins σ H4 { s4 with heap := s4.heap.push { cls := .type "slice", data := .fields #[vl, vu, vs] } } := I4.kept (t' := s4.toks) fun b ob q => Heap.get?_push_of_some _ q
  obtain ⟨its, r, ht, hz⟩ := I5.tuple hx
  have hlen := r.length
  show wpAny _ _ (subscriptTail e _ (.ref a) (.ref s4.heap.objs.size)) _ _ _
  refine tail_any (ops := [.ref a, .ref s4.heap.objs.size]) ht.typeIs (PyProof.Rows.slot_tuple_getitem.lookup) ?_ (by with_unfolding_all rfl)
  refine getItem_tuple_rev ht (Heap.IsSliceOf.new _ vl vu vs) pl pu ps ?_ (by rw [List.size_toArray]; omega)
  refine ⟨.ref _, _, I5.laid (t' := s4.toks) (o := .tup xs.reverse) (fun b ob q => Heap.get?_push_of_some _ q) (Nat.le_refl _) ?_, rfl, q _ (I5.hok.fresh (Nat.le_refl _))⟩
  exact ⟨by rw [List.length_reverse]; exact hz, _, r.reverse, ⟨_, Heap.get?_push_size _ rfl, rfl, 0, rfl⟩⟩
theorem PE.or {X : Cx} {e : Expr} {t1 t2 : TE} (h1 : PE X e t1) (h2 : PE X e t2) : PE X e (fun σ H Q => t1 σ H Q ∨ t2 σ H Q) := ⟨fun pins s σ H Q I q => q.elim (h1.run pins s σ H Q I) (h2.run pins s σ H Q I)⟩
theorem pd_rev (he : PD .rd X as E e te) : PD m X as E (.Subscript e (.Slice none none (some (.UnaryOp .USub (.Constant (.int 1) k p1) p2)) p3) pos) (dRev te) :=
  PD.by (PE.or (pe_revL he.pe) (peRevT he.pe)) fun σ H Q F0 H0 F ρ sp rl p => by
    unfold dRev at p
    cases h : te ρ sp with
    | bad => rw [h] at p; exact p.elim
    | exc x sp1 => rw [h] at p; exact .inl (TD_exc rl h p)
    | ok s sp1 =>
      rw [h] at p
      rw [Out.bind_ok] at p
      cases zd : s.d? with
      | none => unfold un1 at p; rw [zd] at p; exact p.elim
      | some d =>
        unfold un1 at p
        rw [zd, Option.bind_some] at p
        cases d with
        | list xs =>
          refine .inl ⟨F0, H0, F, ρ, sp, rl, ?_⟩
          rw [h]
          intro v F' H' g q vm
          obtain ⟨a, vs, ev, hs, rr⟩ := (Rd.of zd vm.1).list g.le
          exact ⟨a, vs, ev, hs, fun pp hp => ansL (z := .ol xs.reverse) rfl g.le q.ne (fun w F2 H2 g2 l2 vm2 => p w F2 H2 (g.trans g2) (q.keep l2) (vm2.any.back g.tr)) rr.reverse hp⟩
        | tuple xs =>
          refine .inr ⟨F0, H0, F, ρ, sp, rl, ?_⟩
          rw [h]
          intro v F' H' g q vm
          obtain ⟨a, vs, ev, hs, rr⟩ := (Rd.of zd vm.1).tup g.le
          exact ⟨a, vs, ev, hs, fun pp hp => ansT (z := .dat (.tuple xs.reverse)) rfl g.le (fun w F2 H2 g2 l2 vm2 => p w F2 H2 (g.trans g2) (q.keep l2) (vm2.any.back g.tr)) rr.reverse hp⟩
        | _ => exact p.elim
end
/-! ### range(a, b) as a value -/
def gRange : List Sl → Option Sl
  | [.dat (.int i), .dat (.int j)] => some (.rg i j)
  | _ => none
theorem cr_range {X : Cx} {as : Option Addr} : CallR X (.type "range") (rG X.K as gRange) := CallR.imp cr_range2 fun xs H Q ⟨F, ss, z, l, pr, e, n, c⟩ => by
  unfold gRange at e
  split at e
  · obtain ⟨v, w, rfl, hv, hw⟩ := pr2 pr
    obtain rfl := (Rd.of (d := .int _) rfl hv).int
    obtain rfl := (Rd.of (d := .int _) rfl hw).int
    cases e
    exact ⟨_, _, rfl, fun p hp => c (.ref p) F _ (Gr.laid1 l hp) (le_upd hp) ⟨⟨p, rfl, fun q => n p q hp, upd_same⟩, fun _ o => (nomatch o), fun _ e => (nomatch e)⟩⟩
  · cases e
end Dn
namespace Dn
open PySem PySem.Spec PyProof.Rows L2

/-! ### a call that gets a new spring -/
def dCallSpr (f : Mir) (te : DE) : DE := fun ρ sp => (te ρ sp).bind fun s sp1 => match s, sp1 with
  | .ol [.int x, .int y, .int z], none => (match f [.spr] (some (x, y, z)) with
    | .ok (.dat d) _ => .ok (.dat d) none
    | _ => .bad)
  | _, _ => .bad
section
variable {X : Cx} {E : XK} {m : Md} {e : Expr} {te : DE} {p pos : Pos} {k : Nat} {f : Addr} {fd : FuncData} {ps : List Str} {mir : Mir} {x : Str}
theorem pd_callSpr (Fn : FnG X.prog X.w X.K X.mg X.base k f fd ps (spD X.K X.mg 1 mir)) (hr : Room k X.A) (hgd : X.A.guards = some []) (hg : Gl X x) (hm : X.mg x = some (.ref f)) (hk : PySem.W.keepIn X.K (.ref f) = true) (hb : Binds X.K fd ps []) (hx : Passes (L2.CX X.prog X.w) X E)
    (he : PD .vl X none E e te) (hdb : (x == ("__debug__" : Str)) = false := by decide) (hs : starEach [e] X.env = (false, eval e X.env) :: starEach [] X.env := by rfl) (hpl : (backTo pos (starEach [] X.env)).any (·.1) = false := by rfl) :
    PD m X none E (.Call (.Name x p) [e] [] pos) (dCallSpr mir te) :=
  PD.by (pe_callG Fn hr hgd hg hm hk hb hx (pa_cons he.pe pa_nil hs) hdb hs hpl) fun σ H Q F0 H0 F ρ sp rl p => by
    refine ⟨F0, H0, F, ρ, sp, rl, PV.imp (bindQ (m' := .vl) p.po) fun v H1 ⟨F1, s, sp1, e1, g1, q1, r1, p2⟩ => ?_⟩
    show spD X.K X.mg 1 mir [v] H1 Q E
    split at p2
    · rename_i x y z
      obtain ⟨a, vs, rfl, n1, n2, n3, n4⟩ := r1.1
      have ha : H a = none := r1.2.1 (by intro e; cases e) rfl a rfl
      have n5 := RpA.ints (ns := [x, y, z]) n4
      subst n5
      refine ⟨some a, F1, some (x, y, z), [.spr], rfl, g1.le, n3, fun b eb => by cases eb; exact n2, .cons ⟨a, rfl, rfl⟩ .nil, ?_⟩
      split at p2
      · rename_i d sp2 hd
        rw [hd]
        intro w F' H' g2 q2 vm
        have g3 : Gr none F1 H1 F' H' → Gr none F H F' H' := fun g => g1.trans g
        refine p2 w F' H' ?_ ?_ (VM.of_dat vm.1)
        · refine ⟨fun b o _ eb => ?_, fun b eb => g1.tr b (g2.tr b eb), g1.sub.trans g2.sub, g2.le, fun b o eb => ?_⟩
          · have hne : (some a : Option Addr) ≠ some b := fun q => by cases q; rw [ha] at eb; cases eb
            exact g2.keep b o hne (g1.keep b o (fun q => nomatch q) eb)
          · rcases g2.new b o eb with ⟨o', h⟩ | h
            · exact g1.new b o' h
            · exact .inr (g1.tr b h)
        · trivial
      · exact p2.elim
    · exact p2.elim
end
/-! ### the law's end -/
section
variable {P : Program} {w : World} {K : PySem.W.Frag} {mg mb : Str → Option Value} {k : Nat} {fa a : Addr} {fd : FuncData} {x : Str} {sp : Sp} {s1 : Shared} {vs : List Value} {ns : List Int}
/-- what is wanted of the law's call -/
abbrev LawQ (s1 : Shared) : Result → Shared → Prop := fun r s' => r = .ok (.ret (.bool true)) ∧ OldK s1.heap s'.heap ∧ s'.os = s1.os ∧ AllBare s'.gens
theorem lawG (KX : K.In s1.heap) (hns : s1.heap.Ns mainGlobals mg) (hbn : s1.heap.Ns builtinsNs mb) (hbb : ∀ x : Str, x ≠ "__name__" → mb x = bootBuiltins x) (hlim : s1.heap.NoLimit) (hgn : s1.gens = #[])
    (ho : s1.heap.get? a = some { cls := .type "list", data := .seq vs.toArray }) (hin : IntsAre vs ns) (hlen : ns.length ≤ sizeLine) (room : Room k callerA)
    (Fn : ∀ base : Heap, K.In base → base.Ns mainGlobals mg → FnG P w K mg base k fa fd [x] sp) (hbind : ∀ (s : Shared) (u : Value), BindsTo s fd ⟨[u], []⟩ [(x, u)])
    (hsp : ∀ H : Hp, Only H → SqL K H a (ns.map V.int) → sp [.ref a] H (fun v _ => v = .bl true) fun _ _ _ => False) : codeAny (model P w) callerA (.call (.ref fa) ⟨[.ref a], []⟩) (LawQ s1) s1 := by
  have vals := vals_ints hin
  have hl2 := hin.length
  have main : ∀ H : Hp, Only H → SqL K H a (ns.map V.int) → HOk P w H s1.heap → (∀ b, H b ≠ none → b = a ∧ K.lookup a = none) → codeAny (model P w) callerA (.call (.ref fa) ⟨[.ref a], []⟩) (LawQ s1) s1 := by
    intro H only sq ok told
    have hid := fun {b : Addr} {o : Obj} (e : s1.heap.get? b = some o) (n : H b = none) => (show (hidT s1.heap H).get? b = some o from hidT_get e n)
    have free : ∀ {b : Addr} {o : Obj} {es : Array DictEntry} {ep : Nat}, s1.heap.get? b = some o → o.data = .dict es ep → H b = none := by
      intro b o es ep e d
      by_cases q : H b = none
      · exact q
      · obtain ⟨rfl, _⟩ := told b q
        rw [ho] at e
        cases e
        cases (show Data.seq vs.toArray _ = Data.dict es ep from d)
    have nsB : ∀ {b : Addr} {m : Str → Option Value}, s1.heap.Ns b m → (hidT s1.heap H).Ns b m := by
      rintro b m ⟨o, es, ep, e, d, r⟩
      exact ⟨o, es, ep, hid e (free e d), d, r⟩
    have kB : K.In (hidT s1.heap H) := by
      intro b o e
      refine hid (KX b o e) ?_
      by_cases q : H b = none
      · exact q
      · obtain ⟨rfl, hk⟩ := told b q
        rw [hk] at e; cases e
    obtain ⟨mc, c1, c2⟩ := hlim
    have e0 : Env0 P w K mg (hidT s1.heap H) callerA [] s1 H := ⟨rfl, ⟨kB, nsB hns, ⟨mb, nsB hbn, hbb⟩, ⟨mc, nsB c1, c2⟩⟩, fun b o e => of_hidT e, Nat.le_of_eq (hidT_size _ _), trivial, fun b hb => absurd hb (by simp [frs]), ok, .of_eq hgn⟩
    refine codeAny_mono ((Fn _ kB (nsB hns)).run callerA [] s1 H ⟨[.ref a], []⟩ [.ref a] [.ref a] _ _ room rfl e0 (hbind s1 (.ref a)) (.cons rfl .nil) (hsp H only sq)) fun r s' h => ?_
    match r, h with
    | .error e, h =>
      obtain ⟨_, _, _, _, _, _, _, _, _, _, _, _, z⟩ := h
      exact z.elim
    | .ok .next, h => exact h.elim
    | .ok .brk, h => exact h.elim
    | .ok .cont, h => exact h.elim
    | .ok (.ret u), ⟨v, H', os, bare, un, ok', r', q⟩ =>
      obtain rfl : v = .bl true := q
      obtain rfl : u = Value.bool true := r'
      refine ⟨rfl, OldK.of_keep fun b o e => ?_, os, bare⟩
      rcases only b with z | ⟨ob, xs, z⟩
      · exact un.keep b o e z (by simp [frs]) (by simp)
      · have e1 := (ok b _ z).1
        rw [e] at e1
        cases e1
        exact (ok' b _ (un.frzs b o _ z)).1
  by_cases hk : K.lookup a = none
  · refine main (fun b => if b = a then some (.frz { cls := .type "list", data := .seq vs.toArray } (.lst (ns.map V.int))) else none) (fun b => ?_) (.inl (.inr ⟨_, if_pos rfl⟩)) (fun b u z => ?_) (fun b z => ?_)
    · by_cases hb : b = a
      · exact .inr ⟨_, _, if_pos hb⟩
      · exact .inl (if_neg hb)
    · by_cases hb : b = a
      · subst hb
        have z2 := (if_pos rfl).symm.trans z
        cases z2
        exact ⟨ho, by rw [List.length_map]; exact hlen, vs, _, vals, ho⟩
      · have z2 := (if_neg hb).symm.trans z
        cases z2
    · by_cases hb : b = a
      · exact ⟨hb, hk⟩
      · exact absurd (if_neg hb) z
  · obtain ⟨o, e⟩ := Option.ne_none_iff_exists'.mp hk
    have e2 := KX a o e
    rw [ho] at e2
    cases e2
    exact main (fun _ => none) (fun _ => .inl rfl) (.inr ⟨_, vs.toArray, _, e, rfl, rfl, rfl, by rw [List.size_toArray, hl2]; exact hlen, by simpa using vals⟩) (fun b u z => nomatch z) fun b z => absurd rfl z
end
/-- the law's own promise, from its mirror -/
theorem law_sp {K : PySem.W.Frag} {mg : Str → Option Value} {mir : Mir} {H : Hp} {a : Addr} {ns : List Int} (hS : SqL K H a (ns.map V.int)) (h : mir [.dat (.list (ns.map PyData.int))] none = .ok (.dat (.bool true)) none) :
    spD K mg 1 mir [.ref a] H (fun v _ => v = .bl true) fun _ _ _ => False := by
  refine ⟨none, H, none, [.dat (.list (ns.map PyData.int))], rfl, Le.refl H, trivial, fun _ e => (nomatch e), .cons (show Rp K H (.ref a) (.list (ns.map PyData.int)) from .lst hS (RpA.of_ints ns)) .nil, ?_⟩
  rw [h]
  intro v F' H' g q vm
  exact (Rd.of (d := .bool true) rfl vm.1).bool
theorem walkG {l : PySem.W.OpenLaw} {n k : Nat} {q : Program} {loose : List Str} {XP : (Str → Option Value) → Heap → Prop} {YP : World → Heap → Prop} {d : DefRec} {x : Str} {mir : Mir}
    (hn : l.most = some n) (hn2 : n ≤ sizeLine) (hdf : d.params.defaults = []) (hr : Room k callerA)
    (F : ∀ (w : World) (mg : Str → Option Value) (fa : Addr) (h : Heap), YP w h → h.Ns mainGlobals mg → mg d.name = some (.ref fa) →
      ∃ (K : PySem.W.Frag) (fd : FuncData), K.In h ∧ (∀ (s : Shared) (u : Value), BindsTo s fd ⟨[u], []⟩ [(x, u)]) ∧ ∀ base : Heap, K.In base → base.Ns mainGlobals mg → FnG l.prog w K mg base k fa fd [x] (spD K mg 1 mir))
    (law : ∀ ns : List Int, ns.length ≤ n → (∀ z ∈ ns, Builtin.Int.intBits z ≤ 1048576) → mir [.dat (.list (ns.map PyData.int))] none = .ok (.dat (.bool true)) none) :
    PySem.W.WalkO q loose XP YP l.row.toRowW d [] (fun f vs => PySem.call f vs) := by
  refine Att.attach_callB hn hdf fun w s0 s1 mg mb fa o pm cd doc a vs ns G Y ho hd hcd hmg hobj hints hlen hbits hg => ?_
  obtain ⟨K, fd, KX, hb, hF⟩ := F w mg fa _ Y G.T.g hmg
  exact lawG KX G.T.g G.T.b G.T.builtins G.T.nolimit hg hobj hints (Nat.le_trans hlen hn2) hr hF hb fun H hO hS => law_sp hS (law ns hlen hbits)
end Dn
namespace Dn
open PySem PySem.Spec PyProof.Rows L2
section
variable {X : Cx} {as : Option Addr} {E : XK} {m : Md} {elt tg iter tg1 iter1 : Expr} {ifs ifs1 : List Expr} {scope : Scope} {own : List (Str × Nat)} {pos spos py : Pos} {ti ti1 : DI} {g g1 : GD} {tt tt1 : DT} {te : DE} {vs1 vsg vsg1 : List Nat} {i : Nat} {y : Str}
theorem pds_setLc (hc : X.calm = true) (hN : X.N.Nodup) (hy : X.N[i]? = some y) (hyl : X.env.scope.names.lookup y = some .local) (hi : PDi true X as E tg iter ti) (ok : BlkOk X.N X.env.scope scope own)
    (hg : ∀ (s : Shared) (H : Hp) (C : Addr) (cl : List (Str × Addr)) (fp : List Addr), PDg (X.blk s H scope (compEnvC scope cl C X.env) fp) as tg g vsg)
    (ht : ∀ (s : Shared) (H : Hp) (C : Addr) (cl : List (Str × Addr)) (fp : List Addr), PDts (X.blk s H scope (compEnvC scope cl C X.env) fp) as E0 ifs tt)
    (he : ∀ (s : Shared) (H : Hp) (C : Addr) (cl : List (Str × Addr)) (fp : List Addr), PD .vl (X.blk s H scope (compEnvC scope cl C X.env) fp) as E0 elt te)
    (hsw : swapsWith (.ListComp elt [⟨tg, iter, ifs, 0⟩] scope pos) (some (.Name y py)) spos.line X.env = pure true := by rfl) (hvs : ∀ i ∈ vsg, i ∈ own.map (·.2) := by decide) (hs : ∀ x, foldedSetIterable iter X.env x = pure x := by intro _; rfl) :
    PDs X as E (.Assign [.Name y py] (.ListComp elt [⟨tg, iter, ifs, 0⟩] scope pos) spos) (dSet i (dLc ti g tt te (own.map (·.2)))) :=
  set_by (ps_setLc (g := TDg X.K as g vsg) (tt := TDt X.K as X.mg E0 tt) (te := TD .vl X.K as X.mg E0 te) hc hN hy hyl hsw hi.pi ok (fun s H C cl fp => (hg s H C cl fp).pg) (fun s H C cl fp => (ht s H C cl fp).pt) (fun s H C cl fp => (he s H C cl fp).pe) hs) hy
    fun σ H Q F0 H0 F ρ sp rl p => lc_imp hvs rl p
theorem pds_setLc2 (hc : X.calm = true) (hN : X.N.Nodup) (hy : X.N[i]? = some y) (hyl : X.env.scope.names.lookup y = some .local) (hi : PDi true X as E tg iter ti) (ok : BlkOk X.N X.env.scope scope own) (hv : ∀ i ∈ vs1, i ∈ own.map (·.2))
    (hg : ∀ (s : Shared) (H : Hp) (C : Addr) (cl : List (Str × Addr)) (fp : List Addr), PDg (X.blk s H scope (compEnvC scope cl C X.env) fp) as tg g vsg)
    (ht : ∀ (s : Shared) (H : Hp) (C : Addr) (cl : List (Str × Addr)) (fp : List Addr), PDts (X.blk s H scope (compEnvC scope cl C X.env) fp) as E0 ifs tt)
    (hi1 : ∀ (s : Shared) (H : Hp) (C : Addr) (cl : List (Str × Addr)) (fp : List Addr), PDi false (X.blk s H scope (compEnvC scope cl C X.env) fp) as E0 tg1 iter1 ti1)
    (hg1 : ∀ (s : Shared) (H : Hp) (C : Addr) (cl : List (Str × Addr)) (fp : List Addr), PDg (X.blk s H scope (compEnvC scope cl C X.env) fp) as tg1 g1 vsg1)
    (ht1 : ∀ (s : Shared) (H : Hp) (C : Addr) (cl : List (Str × Addr)) (fp : List Addr), PDts (X.blk s H scope (compEnvC scope cl C X.env) fp) as E0 ifs1 tt1)
    (he : ∀ (s : Shared) (H : Hp) (C : Addr) (cl : List (Str × Addr)) (fp : List Addr), PD .vl (X.blk s H scope (compEnvC scope cl C X.env) fp) as E0 elt te)
    (hsw : swapsWith (.ListComp elt [⟨tg, iter, ifs, 0⟩, ⟨tg1, iter1, ifs1, 0⟩] scope pos) (some (.Name y py)) spos.line X.env = pure true := by rfl) (hvs : ∀ i ∈ vsg, i ∈ own.map (·.2) := by decide) (hvs1 : ∀ i ∈ vsg1, i ∈ vs1 := by decide) (hs : ∀ x, foldedSetIterable iter X.env x = pure x := by intro _; rfl) (hs1 : ∀ env x, foldedSetIterable iter1 env x = pure x := by intro _ _; rfl) :
    PDs X as E (.Assign [.Name y py] (.ListComp elt [⟨tg, iter, ifs, 0⟩, ⟨tg1, iter1, ifs1, 0⟩] scope pos) spos) (dSet i (dLc2 ti g tt ti1 g1 tt1 te (own.map (·.2)) vs1)) :=
  set_by (ps_setLc2 (g := TDg X.K as g vsg) (tt := TDt X.K as X.mg E0 tt) (wi1 := TDi false X.K as X.mg E0 ti1) (g1 := TDg X.K as g1 vsg1) (tt1 := TDt X.K as X.mg E0 tt1) (te := TD .vl X.K as X.mg E0 te) hc hN hy hyl hsw hi.pi ok hv (fun s H C cl fp => (hg s H C cl fp).pg) (fun s H C cl fp => (ht s H C cl fp).pt) (fun s H C cl fp => (hi1 s H C cl fp).pi) (fun s H C cl fp => (hg1 s H C cl fp).pg) (fun s H C cl fp => (ht1 s H C cl fp).pt) (fun s H C cl fp => (he s H C cl fp).pe) hs hs1) hy
    fun σ H Q F0 H0 F ρ sp rl p => lc2_imp (hg X.s_0 X.H_0 0 [] []).only hvs hvs1 rl p
/-- gdName's stays -/
theorem stays_name {i : Nat} : ∀ d ρ ρ', gdName i d ρ = some ρ' → Stays [i] ρ ρ' := fun d ρ ρ' e j s hs ho => by
  cases e
  by_cases hj : i = j
  · subst hj
    by_cases hl : i < ρ.length
    · rw [List.getElem?_set_self hl] at hs
      cases hs
      cases ho
    · rw [List.getElem?_eq_none (by simpa using hl)] at hs; cases hs
  · rw [List.getElem?_set_ne hj] at hs
    exact ⟨hs, by simpa using Ne.symm hj⟩
end
end Dn
namespace Dn
open PySem PySem.Spec PyProof.Rows L2
section
variable {K : PySem.W.Frag} {as : Option Addr} {F0 H0 F H : Hp} {sp : SpO} {ρ : Env_} {σ : L2.St} {i : Nat} {xs : List D}
/-- an own list becomes data -/
theorem Rl.frz (r : Rl K as F0 H0 F H sp ρ σ) (e : ρ[i]? = some (.ol xs)) : ∃ F', Le F F' ∧ Rl K as F0 H0 F' H sp (ρ.set i (.dat (.list xs))) σ := by
  obtain ⟨v, h1, ⟨a, vs, ev, n1, n2, n3, n4⟩, h3⟩ := r.slot i _ e (fun q => nomatch q)
  subst ev
  have h0 : H0 a = none := h3 rfl a rfl
  let P : Addr → Prop := fun b => b = a
  have hi : i < ρ.length := (List.getElem?_eq_some_iff.mp e).1
  have sub : Le F (fz P F H) := fz_sub r.le
  have out : ∀ b, b ≠ a → fz P F H b = F b := fun b hb => fz_not hb
  refine ⟨fz P F H, sub, r.gr.fz (fun b hb => by rw [hb]; exact h0), r.sp, fun b eb => ?_, fun j s ej ns => ?_, fun j k s t b ej ek os ot vj vk => ?_⟩
  · rw [out b fun q => n1 (by rw [eb, q])]
    exact r.nas b eb
  · by_cases hj : i = j
    · subst hj
      rw [List.getElem?_set_self hi] at ej
      cases ej
      refine ⟨_, h1, ?_, fun o => nomatch o⟩
      show Rp K (fz P F H) (.ref a) (.list xs)
      exact .lst (.inl (.inl (by rw [fz_at (show P a from rfl)]; exact n3))) (n4.mono sub)
    · rw [List.getElem?_set_ne hj] at ej
      obtain ⟨w, k1, k2, k3⟩ := r.slot j s ej ns
      refine ⟨w, k1, ?_, k3⟩
      have far : s.own = true → ∀ b, w = .ref b → b ≠ a := fun o b eb q => by
        subst eb q
        exact hj (r.dis i j _ s b e ej rfl o h1 k1)
      cases s with
      | un => exact k2
      | dat d => exact Rp.mono sub k2
      | ol ys => obtain ⟨b, ws, eb, m1, m2, m3, m4⟩ := k2; exact ⟨b, ws, eb, m1, by rw [out b (far rfl b eb)]; exact m2, m3, m4.mono sub⟩
      | od ys => obtain ⟨b, ws, eb, m1, m2, m3, m4⟩ := k2; exact ⟨b, ws, eb, m1, by rw [out b (far rfl b eb)]; exact m2, m3, m4.mono sub⟩
      | os ys => obtain ⟨b, ws, m0, eb, m1, m2, m3, m4⟩ := k2; exact ⟨b, ws, m0, eb, m1, by rw [out b (far rfl b eb)]; exact m2, m3, m4⟩
      | rg lo hi => exact k2
      | spr => exact k2
  · by_cases hj : i = j
    · subst hj
      rw [List.getElem?_set_self hi] at ej
      cases ej
      cases os
    · rw [List.getElem?_set_ne hj] at ej
      by_cases hk : i = k
      · subst hk
        rw [List.getElem?_set_self hi] at ek
        cases ek
        cases ot
      · rw [List.getElem?_set_ne hk] at ek
        exact r.dis j k s t b ej ek os ot vj vk
end
section
variable {X : Cx} {as : Option Addr} {E : XK} {sts : List Stmt} {t : DS} {a b : Expr} {ta tb : DE} {pos : Pos}
theorem pdss_frz (i : Nat) (h : PDss X as E sts t) : PDss X as E sts (dFrz i t) := by
  refine ⟨⟨fun pins s σ H D I ⟨F0, H0, F, ρ, sp, rl, p⟩ => ?_⟩⟩
  unfold dFrz at p
  split at p
  · rename_i xs e
    obtain ⟨F', l, r⟩ := rl.frz e
    exact h.ps.run pins s σ H D I ⟨F0, H0, F', _, sp, r, p.le l⟩
  · exact h.ps.run pins s σ H D I ⟨F0, H0, F, ρ, sp, rl, p⟩
/-! tests by comparison -/
theorem pdt_eq (hu : X.A.units + 64 < cLine) (ha : PD .rd X as E a ta) (hb : PD .rd X as E b tb) : PDt X as E (.Compare a [.Eq] [b] pos) (dTb (dB gEq ta tb)) := pdt_cmp ((op_eqD hu).or op_eq) gd_eq ha hb (nobehind _ (by decide) (by decide))
theorem pdt_ne (hu : X.A.units + 64 < cLine) (ha : PD .rd X as E a ta) (hb : PD .rd X as E b tb) : PDt X as E (.Compare a [.NotEq] [b] pos) (dTb (dB gNe ta tb)) := pdt_cmp ((op_neD hu).or op_ne) gd_ne ha hb (nobehind _ (by decide) (by decide))
theorem pdt_lt (ha : PD .rd X as E a ta) (hb : PD .rd X as E b tb) : PDt X as E (.Compare a [.Lt] [b] pos) (dTb (dB gLt ta tb)) := pdt_cmp op_lt gd_lt ha hb (nobehind _ (by decide) (by decide))
theorem pdt_le (ha : PD .rd X as E a ta) (hb : PD .rd X as E b tb) : PDt X as E (.Compare a [.LtE] [b] pos) (dTb (dB gLe ta tb)) := pdt_cmp op_le gd_le ha hb (nobehind _ (by decide) (by decide))
theorem pdt_gt (ha : PD .rd X as E a ta) (hb : PD .rd X as E b tb) : PDt X as E (.Compare a [.Gt] [b] pos) (dTb (dB gGt ta tb)) := pdt_cmp op_gt gd_gt ha hb (nobehind _ (by decide) (by decide))
theorem pdt_ge (ha : PD .rd X as E a ta) (hb : PD .rd X as E b tb) : PDt X as E (.Compare a [.GtE] [b] pos) (dTb (dB gGe ta tb)) := pdt_cmp op_ge gd_ge ha hb (nobehind _ (by decide) (by decide))
end
/-! ### what is known of the module -/
theorem ru64 {k : Nat} {A : Around} (r : Room k A) : A.units + 64 < cLine := by have := r.un; omega
theorem ru65 {k : Nat} {A : Around} (r : Room k A) : A.units + 65 < cLine := by have := r.un; omega
theorem ru66 {k : Nat} {A : Around} (r : Room k A) : A.units + 66 < cLine := by have := r.un; omega
theorem ru67 {k : Nat} {A : Around} (r : Room k A) : A.units + 67 < cLine := by have := r.un; omega
def DefE (K : PySem.W.Frag) (mg : Str → Option Value) (x : Str) (st : Stmt) : Prop := ∃ f fd, FunD K x x (defArgs st) (defBody st) (defScope st) [] [] f fd ∧ mg x = some (.ref f)
def Pr (P : Program) (w : World) (K : PySem.W.Frag) (mg : Str → Option Value) (base : Heap) (x : Str) (st : Stmt) (k n : Nat) (ps : List Str) (m : Mir) : Prop :=
  ∃ f fd, FunD K x x (defArgs st) (defBody st) (defScope st) [] [] f fd ∧ mg x = some (.ref f) ∧ Binds K fd ps [] ∧ FnG P w K mg base k f fd ps (spD K mg n m)
section
variable {P : Program} {w : World} {K : PySem.W.Frag} {mg : Str → Option Value} {base : Heap} {N : List Str} {x qual : Str} {params : Arguments} {body : List Stmt} {scope : Scope} {f : Addr} {fd : FuncData} {cdv : Value} {A : Around} {outer : List Env} {s : Shared} {H : Hp} {E : XK} {ps : List Str}
theorem hx_cx : Passes (L2.CX P w) (cxG P w K mg base N qual scope f cdv A outer s H E) E := passes_call (takes_of rfl rfl rfl rfl) fun _ _ _ _ h => h
theorem hp_cx : PassesOwn (model P w) (cxG P w K mg base N qual scope f cdv A outer s H E).A (cxG P w K mg base N qual scope f cdv A outer s H E).env (cxG P w K mg base N qual scope f cdv A outer s H E).xe := passes_of rfl
theorem kb_of {n : Nat} {ks : List Str} {perm : List Nat} (Fd : FunD K x qual params body scope [] [] f fd)
    (h : ∀ (kV doc pm : Value) (an : Option Addr) (cdv ct : Value) (us ws : List Value), us.length = n → ws.length = ks.length → bindArgs (PySem.W.fnOf x qual params body scope .none kV doc pm an cdv ct) ⟨us, ks.zip ws⟩ = pure (ps.zip (permL perm (us ++ ws))))
    (h1 : perm.length = ps.length := by rfl) (h2 : ∀ i ∈ perm, i < n + ks.length := by decide) : KB fd ps n ks perm := by
  obtain ⟨oc, od, dV, kV, doc, pm, an, cdv, ct, osl, rfl, lk, hcd, hD, hK⟩ := Fd.ex
  rcases hD with ⟨_, rfl⟩ | ⟨e, _⟩
  · exact ⟨fun s us ws l1 l2 => BindsTo.of_eq (h kV doc pm an cdv ct us ws l1 l2), h1, h2⟩
  · exact absurd rfl e
end
def visB (sc : Scope) (x : Str) : Bool := match sc.names.lookup x with
  | some .local => true
  | some .cell => true
  | some .free => true
  | _ => false
theorem vis_of {sc : Scope} {x : Str} (h : visB sc x = true) : Vis sc x := by
  unfold visB at h
  split at h
  · rename_i q; exact .inl q
  · rename_i q; exact .inr (.inl q)
  · rename_i q; exact .inr (.inr q)
  · cases h
def locB (sc : Scope) (x : Str) : Bool := match sc.names.lookup x with
  | some .local => true
  | some .cell => true
  | _ => false
theorem loc_of {sc : Scope} {x : Str} (h : locB sc x = true) : Loc sc x := by
  unfold locB at h
  split at h
  · rename_i q; exact .inl q
  · rename_i q; exact .inr q
  · cases h
end Dn
namespace Dn
open PySem PySem.Spec PyProof.Rows L2
/-! ### the law's own def: no spring yet -/
def spD0 (K : PySem.W.Frag) (mg : Str → Option Value) (n : Nat) (f : Mir) : Sp := fun vs H Q E => ∃ F args, args.length = n ∧ Le F H ∧ Paired (ArgR K none F) args vs ∧ PV .vl K none mg E F H Q (f args none)
def Pr0 (P : Program) (w : World) (K : PySem.W.Frag) (mg : Str → Option Value) (base : Heap) (x : Str) (st : Stmt) (k n : Nat) (ps : List Str) (m : Mir) : Prop :=
  ∃ f fd, FunD K x x (defArgs st) (defBody st) (defScope st) [] [] f fd ∧ mg x = some (.ref f) ∧ Binds K fd ps [] ∧ FnG P w K mg base k f fd ps (spD0 K mg n m)
section
variable {P : Program} {w : World} {K : PySem.W.Frag} {mg : Str → Option Value} {base : Heap} {x qual : Str} {params : Arguments} {body : List Stmt} {scope : Scope} {dvs : List V} {kws : List (Str × V)} {f : Addr} {fd : FuncData}
theorem fnG_mir0 {N ps : List Str} {k n m : Nat} {t : DS} (Fd : FunD K x qual params body scope dvs kws f fd) (S : FnScope N ps scope) (hm : ps.length = m)
    (hb : ∀ (cdv : Value) (A : Around) (outer : List Env) (s : Shared) (H : Hp) (E : XK), Room k (A.deeper (envOfC qual scope s.heap.objs.size f cdv)) → A.guards = some [] → PDss (cxG P w K mg base N qual scope f cdv A outer s H E) none E body t) :
    FnG P w K mg base (k + 1) f fd ps (spD0 K mg m (mirOf n t)) := by
  refine fnG_of Fd S (fun vs H Q E ⟨F, args, hn, _, r, _⟩ => by rw [← r.length, hn, hm]) fun cdv A outer s H vs Q E room hgd ⟨F, args, hn, l, r, p⟩ => ?_
  refine ⟨_, (hb cdv A outer s H E room hgd).ps, F, H, F, args ++ List.replicate n Sl.un, none, rl_start (K := K) (N := N) (n := n) l (show SpAt none none H from trivial) (fun a e => nomatch e) r, ?_⟩
  unfold mirOf at p
  cases h : t (args ++ List.replicate n .un) none with
  | ok fl sp1 =>
    rw [h] at p
    cases fl with
    | nx ρ => exact fun σ' F' H' l' r' => p .non F' H' r'.gr r'.sp (VM.of_dat .non)
    | rt s => exact fun v F' H' g q r => p v F' H' g q r
    | bk ρ => exact p.elim
    | ct ρ => exact p.elim
  | exc e sp1 => rw [h] at p; exact fun c d F' H' g q r => p c d F' H' g q r
  | bad => rw [h] at p; exact p.elim
end
theorem law_sp0 {K : PySem.W.Frag} {mg : Str → Option Value} {mir : Mir} {H : Hp} {a : Addr} {ns : List Int} (hS : SqL K H a (ns.map V.int)) (h : mir [.dat (.list (ns.map PyData.int))] none = .ok (.dat (.bool true)) none) :
    spD0 K mg 1 mir [.ref a] H (fun v _ => v = .bl true) fun _ _ _ => False := by
  refine ⟨H, [.dat (.list (ns.map PyData.int))], rfl, Le.refl H, .cons (show Rp K H (.ref a) (.list (ns.map PyData.int)) from .lst hS (RpA.of_ints ns)) .nil, ?_⟩
  rw [h]
  intro v F' H' g q vm
  exact (Rd.of (d := .bool true) rfl vm.1).bool
theorem walkG0 {l : PySem.W.OpenLaw} {n k : Nat} {q : Program} {loose : List Str} {XP : (Str → Option Value) → Heap → Prop} {YP : World → Heap → Prop} {d : DefRec} {x : Str} {mir : Mir}
    (hn : l.most = some n) (hn2 : n ≤ sizeLine) (hdf : d.params.defaults = []) (hr : Room k callerA)
    (F : ∀ (w : World) (mg : Str → Option Value) (fa : Addr) (h : Heap), YP w h → h.Ns mainGlobals mg → mg d.name = some (.ref fa) →
      ∃ (K : PySem.W.Frag) (fd : FuncData), K.In h ∧ (∀ (s : Shared) (u : Value), BindsTo s fd ⟨[u], []⟩ [(x, u)]) ∧ ∀ base : Heap, K.In base → base.Ns mainGlobals mg → FnG l.prog w K mg base k fa fd [x] (spD0 K mg 1 mir))
    (law : ∀ ns : List Int, ns.length ≤ n → (∀ z ∈ ns, Builtin.Int.intBits z ≤ 1048576) → mir [.dat (.list (ns.map PyData.int))] none = .ok (.dat (.bool true)) none) :
    PySem.W.WalkO q loose XP YP l.row.toRowW d [] (fun f vs => PySem.call f vs) := by
  refine Att.attach_callB hn hdf fun w s0 s1 mg mb fa o pm cd doc a vs ns G Y ho hd hcd hmg hobj hints hlen hbits hg => ?_
  obtain ⟨K, fd, KX, hb, hF⟩ := F w mg fa _ Y G.T.g hmg
  exact lawG KX G.T.g G.T.b G.T.builtins G.T.nolimit hg hobj hints (Nat.le_trans hlen hn2) hr hF hb fun H hO hS => law_sp0 hS (law ns hlen hbits)
end Dn
namespace Dn
open PySem PySem.Spec PyProof.Rows L2
/-! ### loops that change nothing but their list -/
theorem lcGo_pure {g : GD} {tt : DT} {te : DE} {ρ : Env_} {sp : SpO} (f : D → Option D) : ∀ {ys acc : List D}, (∀ y ∈ ys, ∀ acc : List D, acc.length < sizeLine → lcOne g tt te ρ y acc sp = .ok (acc ++ (f y).toList) sp) → acc.length + ys.length ≤ sizeLine → lcGo g tt te ρ ys acc sp = .ok (acc ++ ys.filterMap f) sp
  | [], acc, _, _ => by simp [lcGo]
  | y :: ys, acc, h, hl => by
    rw [List.length_cons] at hl
    rw [lcGo, h y List.mem_cons_self acc (by omega), Out.bind_ok]
    have hlen : (acc ++ (f y).toList).length ≤ acc.length + 1 := by
      cases f y <;> simp
    rw [lcGo_pure f (fun z hz => h z (List.mem_cons_of_mem _ hz)) (by omega)]
    congr 1
    rw [List.append_assoc]
    congr 1
    cases q : f y <;> simp [List.filterMap_cons, q]
theorem lcGo_map {g : GD} {tt : DT} {te : DE} {ρ : Env_} {sp : SpO} (f : D → D) {ys acc : List D} (h : ∀ y ∈ ys, ∀ acc : List D, acc.length < sizeLine → lcOne g tt te ρ y acc sp = .ok (acc ++ [f y]) sp) (hl : acc.length + ys.length ≤ sizeLine) : lcGo g tt te ρ ys acc sp = .ok (acc ++ ys.map f) sp := by
  rw [lcGo_pure (fun y => some (f y)) (fun y hy acc ha => by rw [h y hy acc ha]; rfl) hl, List.filterMap_eq_map']
theorem lcGo2_pure {g : GD} {tt : DT} {ti1 : DI} {g1 : GD} {tt1 : DT} {te : DE} {vs1 : List Nat} {ρ : Env_} {sp : SpO} (F : D → List D) : ∀ {ys acc : List D},
    (∀ y ∈ ys, ∀ acc : List D, acc.length + (F y).length ≤ sizeLine → ∃ ρ2 zs, g y ρ = some ρ2 ∧ noX (tt ρ2 sp) = .ok true sp ∧ noX (ti1 ρ2 sp) = .ok zs sp ∧ lcGo g1 tt1 te (wipeD ρ2 vs1) zs acc sp = .ok (acc ++ F y) sp) →
    acc.length + (ys.flatMap F).length ≤ sizeLine → lcGo2 g tt ti1 g1 tt1 te vs1 ρ ys acc sp = .ok (acc ++ ys.flatMap F) sp
  | [], acc, _, _ => by simp [lcGo2]
  | y :: ys, acc, h, hl => by
    rw [List.flatMap_cons, List.length_append] at hl
    obtain ⟨ρ2, zs, h1, h2, h3, h4⟩ := h y List.mem_cons_self acc (by omega)
    rw [lcGo2, h1]
    dsimp only
    rw [h2, Out.bind_ok, if_pos rfl, h3, Out.bind_ok, h4, Out.bind_ok, lcGo2_pure F (fun z hz => h z (List.mem_cons_of_mem _ hz)) (by rw [List.length_append]; omega), List.flatMap_cons, List.append_assoc]
theorem lcGo_of {α : Type} {g : GD} {tt : DT} {te : DE} {ρ : Env_} {sp : SpO} (e : α → D) (p : α → Bool) (f : α → D) : ∀ {l : List α} {acc : List D}, (∀ a ∈ l, ∀ acc : List D, acc.length < sizeLine → lcOne g tt te ρ (e a) acc sp = .ok (if p a = true then acc ++ [f a] else acc) sp) → acc.length + l.length ≤ sizeLine →
    lcGo g tt te ρ (l.map e) acc sp = .ok (acc ++ (l.filter p).map f) sp
  | [], acc, _, _ => by simp [lcGo]
  | a :: l, acc, h, hl => by
    rw [List.length_cons] at hl
    rw [List.map_cons, lcGo, h a List.mem_cons_self acc (by omega), Out.bind_ok, lcGo_of e p f (fun z hz => h z (List.mem_cons_of_mem _ hz)) (by cases p a <;> simp <;> omega)]
    cases q : p a <;> simp [q]
theorem lcGo_all {α : Type} {g : GD} {tt : DT} {te : DE} {ρ : Env_} {sp : SpO} (e : α → D) (f : α → D) {l : List α} {acc : List D} (h : ∀ a ∈ l, ∀ acc : List D, acc.length < sizeLine → lcOne g tt te ρ (e a) acc sp = .ok (acc ++ [f a]) sp) (hl : acc.length + l.length ≤ sizeLine) :
    lcGo g tt te ρ (l.map e) acc sp = .ok (acc ++ l.map f) sp := by
  rw [lcGo_of e (fun _ => true) f (fun a ha acc hacc => by rw [if_pos rfl]; exact h a ha acc hacc) hl, List.filter_eq_self.mpr fun _ _ => rfl]
theorem lcGo2_of {α : Type} {g : GD} {tt : DT} {ti1 : DI} {g1 : GD} {tt1 : DT} {te : DE} {vs1 : List Nat} {ρ : Env_} {sp : SpO} (e : α → D) (F : α → List D) : ∀ {l : List α} {acc : List D},
    (∀ a ∈ l, ∀ acc : List D, acc.length + (F a).length ≤ sizeLine → ∃ ρ2 zs, g (e a) ρ = some ρ2 ∧ noX (tt ρ2 sp) = .ok true sp ∧ noX (ti1 ρ2 sp) = .ok zs sp ∧ lcGo g1 tt1 te (wipeD ρ2 vs1) zs acc sp = .ok (acc ++ F a) sp) →
    acc.length + (l.flatMap F).length ≤ sizeLine → lcGo2 g tt ti1 g1 tt1 te vs1 ρ (l.map e) acc sp = .ok (acc ++ l.flatMap F) sp
  | [], acc, _, _ => by simp [lcGo2]
  | a :: l, acc, h, hl => by
    rw [List.flatMap_cons, List.length_append] at hl
    obtain ⟨ρ2, zs, h1, h2, h3, h4⟩ := h a List.mem_cons_self acc (by omega)
    rw [List.map_cons, lcGo2, h1]
    dsimp only
    rw [h2, Out.bind_ok, if_pos rfl, h3, Out.bind_ok, h4, Out.bind_ok, lcGo2_of e F (fun z hz => h z (List.mem_cons_of_mem _ hz)) (by rw [List.length_append]; omega), List.flatMap_cons, List.append_assoc]
/-- a loop, step by step -/
theorem forGo_at {α : Type} {g : GD} {tb : DS} {sp : SpO} (e : α → D) (R : Nat → Env_ → Prop) : ∀ (l : List α) (j : Nat) {ρ : Env_}, (∀ k ρ a, l[k]? = some a → R (j + k) ρ → ∃ ρ1 ρ2, g (e a) ρ = some ρ1 ∧ tb ρ1 sp = .ok (.nx ρ2) sp ∧ R (j + k + 1) ρ2) → R j ρ →
    ∃ ρ2, forGo g tb (l.map e) ρ sp = .ok (.nx ρ2) sp ∧ R (j + l.length) ρ2
  | [], j, ρ, _, r => ⟨ρ, rfl, r⟩
  | a :: l, j, ρ, h, r => by
    obtain ⟨ρ1, ρ2, h1, h2, h3⟩ := h 0 ρ a rfl r
    obtain ⟨ρ3, h4, h5⟩ := forGo_at e R l (j + 1) (ρ := ρ2) (fun k ρ a ha hr => by
      have := h (k + 1) ρ a (by simpa using ha) (by rw [show j + (k + 1) = j + 1 + k by omega]; exact hr)
      rwa [show j + (k + 1) + 1 = j + 1 + k + 1 by omega] at this) h3
    refine ⟨ρ3, ?_, by rw [List.length_cons, show j + (l.length + 1) = j + 1 + l.length by omega]; exact h5⟩
    rw [List.map_cons, forGo, h1]
    dsimp only
    rw [h2, Out.bind_ok]
    exact h4
theorem forGo_up {g : GD} {tb : DS} {sp : SpO} {ρ : Env_} (lo : Int) (n : Nat) (R : Nat → Env_ → Prop) (h : ∀ k ρ, k < n → R k ρ → ∃ ρ1 ρ2, g (.int (lo + (k : Int))) ρ = some ρ1 ∧ tb ρ1 sp = .ok (.nx ρ2) sp ∧ R (k + 1) ρ2) (r : R 0 ρ) :
    ∃ ρ2, forGo g tb (rngD lo n) ρ sp = .ok (.nx ρ2) sp ∧ R n ρ2 := by
  have q := forGo_at (g := g) (tb := tb) (sp := sp) (fun i : Nat => PyData.int (lo + (i : Int))) R (List.range n) 0 (ρ := ρ) (fun k ρ a ha hr => by
    have hk : k < n := by
      have := (List.getElem?_eq_some_iff.mp ha).1
      simpa using this
    rw [List.getElem?_range hk] at ha
    cases ha
    rw [Nat.zero_add] at hr ⊢
    exact h k ρ hk hr) r
  rw [List.length_range, Nat.zero_add] at q
  exact q
/-- the first steps of a loop -/
theorem forGo_pre {α : Type} {g : GD} {tb : DS} {sp : SpO} (e : α → D) (rest : List D) (R : Nat → Env_ → Prop) : ∀ (l : List α) (j : Nat) {ρ : Env_}, (∀ k ρ a, l[k]? = some a → R (j + k) ρ → ∃ ρ1 ρ2, g (e a) ρ = some ρ1 ∧ tb ρ1 sp = .ok (.nx ρ2) sp ∧ R (j + k + 1) ρ2) → R j ρ →
    ∃ ρ2, forGo g tb (l.map e ++ rest) ρ sp = forGo g tb rest ρ2 sp ∧ R (j + l.length) ρ2
  | [], j, ρ, _, r => ⟨ρ, rfl, r⟩
  | a :: l, j, ρ, h, r => by
    obtain ⟨ρ1, ρ2, h1, h2, h3⟩ := h 0 ρ a rfl r
    obtain ⟨ρ3, h4, h5⟩ := forGo_pre e rest R l (j + 1) (ρ := ρ2) (fun k ρ a ha hr => by
      have := h (k + 1) ρ a (by simpa using ha) (by rw [show j + (k + 1) = j + 1 + k by omega]; exact hr)
      rwa [show j + (k + 1) + 1 = j + 1 + k + 1 by omega] at this) h3
    refine ⟨ρ3, ?_, by rw [List.length_cons, show j + (l.length + 1) = j + 1 + l.length by omega]; exact h5⟩
    rw [List.map_cons, List.cons_append, forGo, h1]
    dsimp only
    rw [h2, Out.bind_ok]
    exact h4
/-- counting up to a turn that leaves -/
theorem forGo_upto {g : GD} {tb : DS} {sp : SpO} {ρ : Env_} (n m : Nat) (R : Nat → Env_ → Prop) (hm : m < n) (h : ∀ k ρ, k < m → R k ρ → ∃ ρ1 ρ2, g (.int (k : Int)) ρ = some ρ1 ∧ tb ρ1 sp = .ok (.nx ρ2) sp ∧ R (k + 1) ρ2) (r : R 0 ρ) :
    ∃ ρ2 rest, forGo g tb (rngD 0 n) ρ sp = forGo g tb (.int (m : Int) :: rest) ρ2 sp ∧ R m ρ2 := by
  have e : rngD 0 n = (List.range m).map (fun i : Nat => PyData.int (i : Int)) ++ ((List.range (n - m)).map fun i : Nat => PyData.int ((m : Int) + (i : Int))) := by
    unfold rngD
    have : List.range n = List.range m ++ (List.range (n - m)).map (m + ·) := by
      rw [← List.range_add, show m + (n - m) = n by omega]
    rw [this, List.map_append, List.map_map]
    congr 1
    · exact List.map_congr_left fun a _ => by rw [Int.zero_add]
    · exact List.map_congr_left fun a _ => by simp
  obtain ⟨ρ2, h1, h2⟩ := forGo_pre (g := g) (tb := tb) (sp := sp) (fun i : Nat => PyData.int (i : Int)) ((List.range (n - m)).map fun i : Nat => PyData.int ((m : Int) + (i : Int))) R (List.range m) 0 (ρ := ρ) (fun k ρ a ha hr => by
    have hk : k < m := by
      have := (List.getElem?_eq_some_iff.mp ha).1
      simpa using this
    rw [List.getElem?_range hk] at ha
    cases ha
    rw [Nat.zero_add] at hr ⊢
    exact h k ρ hk hr) r
  rw [List.length_range, Nat.zero_add] at h2
  obtain ⟨j, hj⟩ : ∃ j, n - m = j + 1 := ⟨n - m - 1, by omega⟩
  refine ⟨ρ2, (List.range j).map (fun i : Nat => PyData.int ((m : Int) + ((i + 1 : Nat) : Int))), ?_, h2⟩
  rw [e, h1, hj, List.range_succ_eq_map, List.map_cons, List.map_map]
  simp only [Int.natCast_zero, Int.add_zero]
  rfl
/-! ### slices -/
theorem cut_take (xs : List D) (i : Nat) : cutD xs none (some (i : Int)) = xs.take i := by
  unfold cutD
  rw [HT.sIx_none, HT.sIx_nat, List.drop_zero, Nat.sub_zero]
  rcases Nat.le_total i xs.length with h | h
  · rw [Nat.min_eq_left h]
  · rw [Nat.min_eq_right h, List.take_length, List.take_of_length_le h]
theorem cut_drop (xs : List D) (i : Nat) : cutD xs (some (i : Int)) none = xs.drop i := by
  unfold cutD
  rw [HT.sIx_none, HT.sIx_nat, List.take_of_length_le (by rw [List.length_drop]; omega)]
  rcases Nat.le_total i xs.length with h | h
  · rw [Nat.min_eq_left h]
  · rw [Nat.min_eq_right h, List.drop_length, List.drop_of_length_le h]
theorem enum_map {α : Type} (f : α → D) (ms : List α) : enumD (ms.map f) = ms.zipIdx.map fun p => .tuple [.int (p.2 : Nat), f p.1] := by
  unfold enumD
  rw [List.zipIdx_map, List.map_map]
  rfl
/-! ### sorting, step by step -/
def insB {α : Type} (le : α → α → Bool) (a : α) : List α → List α
  | [] => [a]
  | b :: l => if le a b then a :: b :: l else b :: insB le a l
def isort {α : Type} (le : α → α → Bool) : List α → List α
  | [] => []
  | a :: l => insB le a (isort le l)
theorem insB_at {α : Type} {le : α → α → Bool} {a : α} : ∀ {l1 l2 : List α}, (∀ b ∈ l1, (!le a b) = true) → (∀ b ∈ l2, le a b = true) → insB le a (l1 ++ l2) = l1 ++ a :: l2
  | [], [], _, _ => rfl
  | [], b :: l2, _, h => by
    show insB le a (b :: l2) = a :: b :: l2
    rw [insB, if_pos (h b List.mem_cons_self)]
  | b :: l1, l2, h, h2 => by
    have := h b List.mem_cons_self
    show insB le a (b :: (l1 ++ l2)) = b :: (l1 ++ a :: l2)
    rw [insB, if_neg (by simpa using this), insB_at (fun c hc => h c (List.mem_cons_of_mem _ hc)) h2]
theorem isort_merge {α : Type} {le : α → α → Bool} (tr : ∀ a b c, le a b = true → le b c = true → le a c = true) (to : ∀ a b, (le a b || le b a) = true) : ∀ l : List α, l.mergeSort le = isort le l
  | [] => by simp [isort]
  | a :: l => by
    obtain ⟨l1, l2, e1, e2, h⟩ := List.mergeSort_cons tr to a l
    have sp := List.pairwise_mergeSort tr to (a :: l)
    rw [e1] at sp
    have h2 : ∀ b ∈ l2, le a b = true := by
      have q := (List.pairwise_append.mp sp).2.1
      exact fun b hb => (List.pairwise_cons.mp q).1 b hb
    rw [isort, ← isort_merge tr to l, e2, e1, insB_at h h2]
theorem isort_map {α β : Type} {le : α → α → Bool} {le2 : β → β → Bool} {f : α → β} (h : ∀ a b, le2 (f a) (f b) = le a b) : ∀ l : List α, isort le2 (l.map f) = (isort le l).map f
  | [] => rfl
  | a :: l => by
    rw [List.map_cons, isort, isort, isort_map h l]
    generalize isort le l = r
    induction r with
    | nil => rfl
    | cons b r ih =>
      rw [List.map_cons, insB, insB, h]
      split
      · rfl
      · rw [List.map_cons, ih]
end Dn
namespace Dn
open PySem PySem.Spec PyProof.Rows L2
abbrev fuelN : Nat := 1000
/-! ### mirrors of the defs -/
abbrev k_MOST_LENGTH : D := PyData.int 30
abbrev k_MOST_MARKS_LET : D := PyData.int 60
abbrev k_MOST_SOUGHT : D := PyData.int 6
def t_is_whole : DS := (dRet (dAnd (dIsi PyData.isInt (dRd 0)) (dNot (dIsi PyData.isBool (dRd 0)))))
def m_is_whole : Mir := mirOf 0 (t_is_whole)
def t_is_whole_between : DS := (dRet (dAnd (dCall m_is_whole 1 (dCons (dAg 0) dNil)) (dChain gLe gLe (dRd 1) (dRd 0) (dRd 2))))
def m_is_whole_between : Mir := mirOf 0 (t_is_whole_between)
def t_wrong_in_marks : DS := (dSeq (dIfS (dOrT (dNotT (dTru (dIsi PyData.isTuple (dRd 0)))) (dTb (dB gGt (dBu gLen (dCons (dRd 0) dNil)) (dC k_MOST_MARKS_LET)))) (dRet (dLst (dCons (dC PyData.none) dNil))) dNext) (dSeq (dFor (dEnum (dVar 0)) (gdTup 2 (gdCons (gdName 1) (gdCons (gdName 2) gdNil))) (dSeq (dIfS (dOrT (dNotT (dTru (dCall m_is_whole 1 (dCons (dAg 2) dNil)))) (dAndT (dTb (dB gGt (dRd 1) (dC (PyData.int 0)))) (dTb (dB gGe (dB gIx (dRd 0) (dB gSub (dRd 1) (dC (PyData.int 1)))) (dRd 2))))) (dRet (dLst (dCons (dVar 1) dNil))) dNext) dNext)) (dRet (dLst dNil))))
def m_wrong_in_marks : Mir := mirOf 2 (t_wrong_in_marks)
def t_gaps_by : DS := (dRet (dBu gTuple (dCons (dLc (dZip (dRd 0) (dSl (dRd 0) (dP1 (dC (PyData.int 1))) dP0)) (gdTup 2 (gdCons (gdName 1) (gdCons (gdName 2) gdNil))) dYes (dB gSub (dRd 2) (dRd 1)) [1, 2]) dNil)))
def m_gaps_by : Mir := mirOf 2 (t_gaps_by)
def t_ruler_lengths : DS := (dRet (dLc2 (dEnum (dRd 0)) (gdTup 2 (gdCons (gdName 1) (gdCons (gdName 2) gdNil))) dYes (dItems (dSl (dRd 0) dP0 (dP1 (dRd 1)))) (gdName 3) dYes (dB gSub (dRd 2) (dRd 3)) [1, 2, 3] [3]))
def m_ruler_lengths : Mir := mirOf 3 (t_ruler_lengths)
def t_is_ruler_by : DS := (dSeq (dSet 1 (dCall m_ruler_lengths 1 (dCons (dAg 0) dNil))) (dRet (dB gEq (dBu gLen (dCons (dBu gSet (dCons (dRd 1) dNil)) dNil)) (dBu gLen (dCons (dRd 1) dNil)))))
def m_is_ruler_by : Mir := mirOf 1 (t_is_ruler_by)
def t_check_marks : DS := (dSeq (dFor (dItems (dCall m_wrong_in_marks 1 (dCons (dAg 0) dNil))) (gdName 1) dBad) dNext)
def m_check_marks : Mir := mirOf 1 (t_check_marks)
def t_check_number : DS := (dSeq (dIfS (dNotT (dTru (dCall m_is_whole_between 3 (dCons (dAg 0) (dCons (dAg 1) (dCons (dAg 2) dNil)))))) dBad dNext) dNext)
def m_check_number : Mir := mirOf 0 (t_check_number)
def t_is_place_let : DS := (dSeq (dIfS (dTb (dB2 (gInS false) (dRd 1) (dRd 0))) (dRet (dC (PyData.bool false))) dNext) (dSeq (dSet 2 (dLc (dItems (dRd 0)) (gdName 3) dYes (dBu gAbs (dCons (dB gSub (dRd 1) (dRd 3)) dNil)) [3])) (dSeq (dSet 4 (dBu gSet (dCons (dCall m_ruler_lengths 1 (dCons (dAg 0) dNil)) dNil))) (dRet (dAnd (dB gEq (dBu gLen (dCons (dBu gSet (dCons (dRd 2) dNil)) dNil)) (dBu gLen (dCons (dRd 2) dNil))) (dNot (dBu gAny (dCons (dLc (dItems (dRd 2)) (gdName 5) dYes (dB2 (gInS false) (dRd 5) (dRd 4)) [5]) dNil))))))))
def m_is_place_let : Mir := mirOf 4 (t_is_place_let)
def t_rulers_within : DS := (dSeq (dSet 1 (dBu gRange (dCons (dB gAdd (dB gIx (dRd 0) (dNeg (dC (PyData.int 2)))) (dC (PyData.int 1))) (dCons (dB gIx (dRd 0) (dNeg (dC (PyData.int 1)))) dNil)))) (dRet (dLc (dItems (dRd 1)) (gdName 2) (dTru (dCall m_is_place_let 2 (dCons (dAg 0) (dCons (dAg 2) dNil)))) (dB gAdd (dSl (dRd 0) dP0 (dP1 (dNeg (dC (PyData.int 1))))) (dTup (dCons (dVar 2) (dCons (dB gIx (dRd 0) (dNeg (dC (PyData.int 1)))) dNil)))) [2])))
def m_rulers_within : Mir := mirOf 2 (t_rulers_within)
def t_rulers_of_length : DS := (dSeq (dIfS (dOrT (dTb (dB gEq (dRd 0) (dC (PyData.int 1)))) (dTb (dB gEq (dRd 1) (dC (PyData.int 0))))) (dRet (dIf (dAndT (dTb (dB gEq (dRd 0) (dC (PyData.int 1)))) (dTb (dB gEq (dRd 1) (dC (PyData.int 0))))) (dTup (dCons (dTup (dCons (dC (PyData.int 0)) dNil)) dNil)) (dTup dNil))) dNext) (dSeq (dSet 2 (dLst (dCons (dTup (dCons (dC (PyData.int 0)) (dCons (dVar 1) dNil))) dNil))) (dSeq (dFor (dRange1 (dCons (dB gSub (dRd 0) (dC (PyData.int 2))) dNil)) (gdName 3) (dSeq (dSet 2 (dLc2 (dItems (dRd 2)) (gdName 4) dYes (dItems (dCall m_rulers_within 1 (dCons (dAg 4) dNil))) (gdName 5) dYes (dVar 5) [4, 5] [5])) dNext)) (dRet (dBu gTuple (dCons (dRd 2) dNil))))))
def m_rulers_of_length : Mir := mirOf 4 (t_rulers_of_length)
def t_shortest_by (fuel : Nat) : DS := (dSeq (dSet 1 (dB gFdiv (dB gMul (dRd 0) (dB gSub (dRd 0) (dC (PyData.int 1)))) (dC (PyData.int 2)))) (dSeq (dWhile fuel (dTb (dB gEq (dCall m_rulers_of_length 2 (dCons (dAg 0) (dCons (dAg 1) dNil))) (dTup dNil))) (dSeq (dAugI (fun i j => i + j) 1 (dC (PyData.int 1))) dNext)) (dRetV 1)))
def m_shortest_by : Mir := mirOf 1 (t_shortest_by fuelN)
def t_rulers_of : DS := (dSeq (dDrop (dCall m_check_number 3 (dCons (dAg 0) (dCons (dC (PyData.int 1)) (dCons (dC k_MOST_SOUGHT) dNil))))) (dSeq (dDrop (dCall m_check_number 3 (dCons (dAg 1) (dCons (dC (PyData.int 0)) (dCons (dC k_MOST_LENGTH) dNil))))) (dRet (dCall m_rulers_of_length 2 (dCons (dAg 0) (dCons (dAg 1) dNil))))))
def m_rulers_of : Mir := mirOf 0 (t_rulers_of)
def t_shortest_length : DS := (dSeq (dDrop (dCall m_check_number 3 (dCons (dAg 0) (dCons (dC (PyData.int 1)) (dCons (dC k_MOST_SOUGHT) dNil))))) (dRet (dCall m_shortest_by 1 (dCons (dAg 0) dNil))))
def m_shortest_length : Mir := mirOf 0 (t_shortest_length)
def t_shortest_rulers : DS := (dSeq (dDrop (dCall m_check_number 3 (dCons (dAg 0) (dCons (dC (PyData.int 1)) (dCons (dC k_MOST_SOUGHT) dNil))))) (dRet (dCall m_rulers_of_length 2 (dCons (dAg 0) (dCons (dCall m_shortest_by 1 (dCons (dAg 0) dNil)) dNil)))))
def m_shortest_rulers : Mir := mirOf 0 (t_shortest_rulers)
def t_gaps_of : DS := (dSeq (dDrop (dCall m_check_marks 1 (dCons (dAg 0) dNil))) (dRet (dCall m_gaps_by 1 (dCons (dAg 0) dNil))))
def m_gaps_of : Mir := mirOf 0 (t_gaps_of)
def t_is_ruler : DS := (dSeq (dDrop (dCall m_check_marks 1 (dCons (dAg 0) dNil))) (dRet (dCall m_is_ruler_by 1 (dCons (dAg 0) dNil))))
def m_is_ruler : Mir := mirOf 0 (t_is_ruler)
def t__law_spring : DS := (dSeq (dSet 2 (dIf (dTb (dB gLt (dRd 1) (dBu gLen (dCons (dRd 0) dNil)))) (dBu gInt (dCons (dB gIx (dRd 0) (dRd 1)) dNil)) (dB gAdd (dB gMul (dC (PyData.int 6007)) (dRd 1)) (dC (PyData.int 41))))) (dSeq (dSet 3 (dB gAdd (dC (PyData.int 71011)) (dB gMul (dC (PyData.int 9001)) (dRd 1)))) (dSeq (dFor (dItems (dSl (dRd 0) dP0 (dP1 (dC (PyData.int 9))))) (gdName 4) (dSeq (dSet 3 (dB gMod (dBu gInt (dCons (dB gAdd (dB gAdd (dB gMul (dRd 3) (dC (PyData.int 48271))) (dB gMul (dB gMod (dBu gInt (dCons (dRd 4) dNil)) (dC (PyData.int 1000000007))) (dC (PyData.int 36007)))) (dC (PyData.int 23))) dNil)) (dC (PyData.int 2147483629)))) dNext)) (dSeq (dSet 3 (dB gMod (dBu gInt (dCons (dB gAdd (dB gMul (dRd 3) (dC (PyData.int 59))) (dB gMul (dB gMod (dBu gInt (dCons (dRd 2) dNil)) (dC (PyData.int 998244353))) (dC (PyData.int 27011)))) dNil)) (dC (PyData.int 2147483629)))) (dFrz 3 (dRet (dLst (dCons (dIf (dOrT (dTb (dB gLt (dRd 2) (dC (PyData.int 0)))) (dTb (dB gGe (dRd 2) (dB gPow (dC (PyData.int 10)) (dC (PyData.int 16)))))) (dBu gAbs (dCons (dRd 2) dNil)) (dC (PyData.int 0))) (dCons (dVar 3) (dCons (dC (PyData.int 0)) dNil))))))))))
def m__law_spring : Mir := mirOf 3 (t__law_spring)
def t__law_draw : DS := (dSeq (dIfS (dTb (dB gGt (dSpr 0 0) (dC (PyData.int 0)))) (dSeq (dSprPair 0 0 2 (dBu gDivmod (dCons (dSpr 0 0) (dCons (dRd 1) dNil)))) (dRetV 2)) dNext) (dSeq (dSprSet 0 2 (dB gAdd (dSpr 0 2) (dC (PyData.int 1)))) (dSeq (dSet 3 (dB gMod (dBu gInt (dCons (dB gAdd (dB gAdd (dB gMul (dSpr 0 1) (dC (PyData.int 40692))) (dB gMul (dC (PyData.int 3791)) (dSpr 0 2))) (dC (PyData.int 101))) dNil)) (dC (PyData.int 2147483399)))) (dSeq (dSprSet 0 1 (dB gMod (dBu gInt (dCons (dB gAdd (dB gMul (dRd 3) (dB gAdd (dB gMod (dBu gInt (dCons (dRd 3) dNil)) (dC (PyData.int 4099))) (dC (PyData.int 16807)))) (dSpr 0 2)) dNil)) (dC (PyData.int 2147483399)))) (dRet (dB gMod (dBu gInt (dCons (dB gFdiv (dSpr 0 1) (dC (PyData.int 257))) dNil)) (dRd 1)))))))
def m__law_draw : Mir := mirOf 2 (t__law_draw)
def t__law_lengths : DS := (dSeq (dSet 1 (dLst dNil)) (dSeq (dFor (dRange1 (dCons (dBu gLen (dCons (dRd 0) dNil)) dNil)) (gdName 2) (dSeq (dSet 1 (dB gAdd (dRd 1) (dLc (dItems (dSl (dRd 0) dP0 (dP1 (dRd 2)))) (gdName 3) dYes (dB gSub (dB gIx (dRd 0) (dRd 2)) (dRd 3)) [3]))) dNext)) (dRetV 1)))
def m__law_lengths : Mir := mirOf 3 (t__law_lengths)
def t__law_unlike : DS := (dRet (dB gEq (dBu gLen (dCons (dBu gSet (dCons (dRd 0) dNil)) dNil)) (dBu gLen (dCons (dRd 0) dNil))))
def m__law_unlike : Mir := mirOf 0 (t__law_unlike)
def t__law_lets : DS := (dRet (dCall m__law_unlike 1 (dCons (dCall m__law_lengths 1 (dCons (dBu gSorted (dCons (dB gAdd (dRd 0) (dLst (dCons (dVar 1) dNil))) dNil)) dNil)) dNil)))
def m__law_lets : Mir := mirOf 0 (t__law_lets)
def t__law_found : DS := (dSeq (dIfS (dOrT (dTb (dB gEq (dRd 0) (dC (PyData.int 1)))) (dTb (dB gLt (dRd 1) (dB gSub (dRd 0) (dC (PyData.int 1)))))) (dRet (dIf (dAndT (dTb (dB gEq (dRd 0) (dC (PyData.int 1)))) (dTb (dB gEq (dRd 1) (dC (PyData.int 0))))) (dLst (dCons (dTup (dCons (dC (PyData.int 0)) dNil)) dNil)) (dLst dNil))) dNext) (dSeq (dSet 2 (dLst (dCons (dLst (dCons (dC (PyData.int 0)) (dCons (dVar 1) dNil))) dNil))) (dSeq (dFor (dRange1 (dCons (dB gSub (dRd 0) (dC (PyData.int 2))) dNil)) (gdName 3) (dSeq (dSet 4 (dLst dNil)) (dFrz 2 (dSeq (dFor (dItems (dVar 2)) (gdName 5) (dSeq (dSet 6 (dIf (dTb (dB gGt (dBu gLen (dCons (dRd 5) dNil)) (dC (PyData.int 2)))) (dB gAdd (dB gIx (dRd 5) (dNeg (dC (PyData.int 1)))) (dC (PyData.int 1))) (dC (PyData.int 1)))) (dSeq (dSet 4 (dB gAdd (dRd 4) (dLc (dRange2 (dCons (dRd 6) (dCons (dRd 1) dNil))) (gdName 7) (dTru (dCall m__law_lets 2 (dCons (dAg 5) (dCons (dAg 7) dNil)))) (dB gAdd (dRd 5) (dLst (dCons (dVar 7) dNil))) [7]))) dNext))) (dFrz 4 (dSeq (dSet 2 (dVar 4)) dNext)))))) (dRet (dBu gSorted (dCons (dLc (dItems (dRd 2)) (gdName 5) dYes (dBu gTuple (dCons (dBu gSorted (dCons (dRd 5) dNil)) dNil)) [5]) dNil))))))
def m__law_found : Mir := mirOf 6 (t__law_found)
def t__law_shortest : DS := (dSeq (dFor (dRange1 (dCons (dC (PyData.int 40)) dNil)) (gdName 1) (dSeq (dSet 2 (dCall m__law_found 2 (dCons (dAg 0) (dCons (dAg 1) dNil)))) (dSeq (dIfS (dTb (dB gNe (dRd 2) (dLst dNil))) (dFrz 2 (dRet (dTup (dCons (dVar 1) (dCons (dVar 2) dNil))))) dNext) dNext))) (dRet (dTup (dCons (dC (PyData.int 40)) (dCons (dLst dNil) dNil)))))
def m__law_shortest : Mir := mirOf 2 (t__law_shortest)
def t__law_right : DS := (dSeq (dPar 1 2 (dCons (dB gAdd (dC (PyData.int 1)) (dCall m__law_draw 2 (dCons (dAg 0) (dCons (dC (PyData.int 5)) dNil)))) (dCons (dB gAdd (dC (PyData.int 1)) (dCall m__law_draw 2 (dCons (dAg 0) (dCons (dC (PyData.int 4)) dNil)))) dNil))) (dSeq (dSet 3 (dCall m__law_draw 2 (dCons (dAg 0) (dCons (dC (PyData.int 14)) dNil)))) (dSeq (dIfS (dTb (dB gEq (dCall m__law_draw 2 (dCons (dAg 0) (dCons (dC (PyData.int 24)) dNil))) (dC (PyData.int 0)))) (dSeq (dAsg (gdTup 2 (gdCons (gdName 1) (gdCons (gdName 3) gdNil))) (dTup (dCons (dC (PyData.int 6)) (dCons (dB gAdd (dC (PyData.int 17)) (dCall m__law_draw 2 (dCons (dAg 0) (dCons (dC (PyData.int 2)) dNil)))) dNil)))) dNext) dNext) (dSeq (dIfS (dTb (dB gEq (dCall m__law_draw 2 (dCons (dAg 0) (dCons (dC (PyData.int 6)) dNil))) (dC (PyData.int 0)))) (dSeq (dSet 2 (dB gAdd (dC (PyData.int 5)) (dIf (dTb (dB gEq (dCall m__law_draw 2 (dCons (dAg 0) (dCons (dC (PyData.int 9)) dNil))) (dC (PyData.int 0)))) (dC (PyData.int 1)) (dC (PyData.int 0))))) dNext) dNext) (dFrz 3 (dFrz 1 (dSeq (dSet 4 (dBu gTuple (dCons (dCall m__law_found 2 (dCons (dAg 1) (dCons (dAg 3) dNil))) dNil))) (dFrz 3 (dFrz 1 (dSeq (dSet 5 (dCall m_rulers_of 2 (dCons (dAg 1) (dCons (dAg 3) dNil)))) (dFrz 3 (dFrz 5 (dFrz 1 (dFrz 4 (dSeq (dIfS (dTb (dB gNe (dBu gRepr (dCons (dLst (dCons (dVar 5) (dCons (dCallK m_rulers_of 2 0 (["length", "many"] : List Str).length [1, 0] dNil (dCons (dAg 3) (dCons (dAg 1) dNil))) dNil))) dNil)) (dBu gRepr (dCons (dLst (dCons (dVar 4) (dCons (dVar 4) dNil))) dNil)))) (dRet (dC (PyData.bool false))) dNext) (dSeq (dFor (dItems (dB gAdd (dSl (dRd 5) dP0 (dP1 (dC (PyData.int 6)))) (dSl (dRd 5) (dP1 (dNeg (dC (PyData.int 2)))) dP0))) (gdName 6) (dSeq (dSet 7 (dBu gTuple (dCons (dLc (dItems (dRev (dRd 6))) (gdName 8) dYes (dB gSub (dRd 3) (dRd 8)) [8]) dNil))) (dSeq (dIfS (dOrT (dTb (dB2 (gInS true) (dRd 7) (dRd 5))) (dOrT (dAndT (dTb (dB gGt (dRd 1) (dC (PyData.int 2)))) (dTb (dB gEq (dRd 7) (dRd 6)))) (dOrT (dNotT (dTru (dCall m_is_ruler 1 (dCons (dAg 6) dNil)))) (dTb (dB gNe (dBu gSum (dCons (dCall m_gaps_of 1 (dCons (dAg 6) dNil)) dNil)) (dRd 3)))))) (dRet (dC (PyData.bool false))) dNext) dNext))) (dFrz 2 (dSeq (dAsg (gdTup 2 (gdCons (gdName 9) (gdCons (gdName 10) gdNil))) (dCall m__law_shortest 1 (dCons (dAg 2) dNil))) (dFrz 2 (dSeq (dIfS (dTb (dB gNe (dBu gRepr (dCons (dLst (dCons (dCall m_shortest_length 1 (dCons (dAg 2) dNil)) (dCons (dCallK m_shortest_length 1 0 (["many"] : List Str).length [0] dNil (dCons (dAg 2) dNil)) dNil))) dNil)) (dBu gRepr (dCons (dLst (dCons (dVar 9) (dCons (dVar 9) dNil))) dNil)))) (dRet (dC (PyData.bool false))) dNext) (dSeq (dSet 11 (dBu gTuple (dCons (dRd 10) dNil))) (dFrz 2 (dFrz 11 (dSeq (dIfS (dTb (dB gNe (dBu gRepr (dCons (dLst (dCons (dCall m_shortest_rulers 1 (dCons (dAg 2) dNil)) (dCons (dCallK m_shortest_rulers 1 0 (["many"] : List Str).length [0] dNil (dCons (dAg 2) dNil)) dNil))) dNil)) (dBu gRepr (dCons (dLst (dCons (dVar 11) (dCons (dVar 11) dNil))) dNil)))) (dRet (dC (PyData.bool false))) dNext) (dFrz 2 (dFrz 11 (dRet (dB gEq (dBu gRepr (dCons (dLst (dCons (dCall m_rulers_of 2 (dCons (dAg 2) (dCons (dAg 9) dNil))) (dCons (dCall m_rulers_of 2 (dCons (dAg 2) (dCons (dBu gMax (dCons (dC (PyData.int 0)) (dCons (dB gSub (dRd 9) (dC (PyData.int 1))) dNil))) dNil))) dNil))) dNil)) (dBu gRepr (dCons (dLst (dCons (dVar 11) (dCons (dIf (dTb (dB gGt (dRd 9) (dC (PyData.int 0)))) (dTup dNil) (dVar 11)) dNil))) dNil))))))))))))))))))))))))))))))
def m__law_right : Mir := mirOf 11 (t__law_right)
def t_law : DS := (dRet (dBu gAll (dCons (dLc (dRange1 (dCons (dBu gMax (dCons (dC (PyData.int 2)) (dCons (dBu gMin (dCons (dBu gLen (dCons (dRd 0) dNil)) (dCons (dC (PyData.int 2)) dNil))) dNil))) dNil)) (gdName 1) dYes (dCallSpr m__law_right (dCall m__law_spring 2 (dCons (dAg 0) (dCons (dAg 1) dNil)))) [1]) dNil)))
def m_law : Mir := mirOf 1 (t_law)
end Dn
namespace Dn
open PySem PySem.Spec PyProof.Rows L2
/-! ### walks -/
def top (i : Nat) : Stmt := PySem.Challenge.pw_samegaps_k66_whole_rulers_by_own_search.main.body.getD i (.Pass ⟨0, 0, 0, 0⟩)
abbrev s_is_whole : Stmt := top 5
abbrev s_is_whole_between : Stmt := top 6
abbrev s_wrong_in_marks : Stmt := top 9
abbrev s_gaps_by : Stmt := top 10
abbrev s_ruler_lengths : Stmt := top 11
abbrev s_is_ruler_by : Stmt := top 12
abbrev s_check_marks : Stmt := top 14
abbrev s_check_number : Stmt := top 15
abbrev s_is_place_let : Stmt := top 17
abbrev s_rulers_within : Stmt := top 19
abbrev s_rulers_of_length : Stmt := top 20
abbrev s_shortest_by : Stmt := top 21
abbrev s_rulers_of : Stmt := top 25
abbrev s_shortest_length : Stmt := top 26
abbrev s_shortest_rulers : Stmt := top 27
abbrev s_gaps_of : Stmt := top 29
abbrev s_is_ruler : Stmt := top 30
abbrev s__law_spring : Stmt := top 32
abbrev s__law_draw : Stmt := top 33
abbrev s__law_lengths : Stmt := top 34
abbrev s__law_unlike : Stmt := top 35
abbrev s__law_lets : Stmt := top 36
abbrev s__law_found : Stmt := top 37
abbrev s__law_shortest : Stmt := top 38
abbrev s__law_right : Stmt := top 39
abbrev s_law : Stmt := top 40
structure Fa (K : PySem.W.Frag) (mg : Str → Option Value) : Prop where
  d_is_whole : DefE K mg "is_whole" s_is_whole
  d_is_whole_between : DefE K mg "is_whole_between" s_is_whole_between
  d_wrong_in_marks : DefE K mg "wrong_in_marks" s_wrong_in_marks
  d_gaps_by : DefE K mg "gaps_by" s_gaps_by
  d_ruler_lengths : DefE K mg "ruler_lengths" s_ruler_lengths
  d_is_ruler_by : DefE K mg "is_ruler_by" s_is_ruler_by
  d_check_marks : DefE K mg "check_marks" s_check_marks
  d_check_number : DefE K mg "check_number" s_check_number
  d_is_place_let : DefE K mg "is_place_let" s_is_place_let
  d_rulers_within : DefE K mg "rulers_within" s_rulers_within
  d_rulers_of_length : DefE K mg "rulers_of_length" s_rulers_of_length
  d_shortest_by : DefE K mg "shortest_by" s_shortest_by
  d_rulers_of : DefE K mg "rulers_of" s_rulers_of
  d_shortest_length : DefE K mg "shortest_length" s_shortest_length
  d_shortest_rulers : DefE K mg "shortest_rulers" s_shortest_rulers
  d_gaps_of : DefE K mg "gaps_of" s_gaps_of
  d_is_ruler : DefE K mg "is_ruler" s_is_ruler
  d__law_spring : DefE K mg "_law_spring" s__law_spring
  d__law_draw : DefE K mg "_law_draw" s__law_draw
  d__law_lengths : DefE K mg "_law_lengths" s__law_lengths
  d__law_unlike : DefE K mg "_law_unlike" s__law_unlike
  d__law_lets : DefE K mg "_law_lets" s__law_lets
  d__law_found : DefE K mg "_law_found" s__law_found
  d__law_shortest : DefE K mg "_law_shortest" s__law_shortest
  d__law_right : DefE K mg "_law_right" s__law_right
  d_law : DefE K mg "law" s_law
  b_abs : mg "abs" = none
  b_all : mg "all" = none
  b_any : mg "any" = none
  b_bool : mg "bool" = none
  b_divmod : mg "divmod" = none
  b_enumerate : mg "enumerate" = none
  b_int : mg "int" = none
  b_isinstance : mg "isinstance" = none
  b_len : mg "len" = none
  b_max : mg "max" = none
  b_min : mg "min" = none
  b_range : mg "range" = none
  b_repr : mg "repr" = none
  b_set : mg "set" = none
  b_sorted : mg "sorted" = none
  b_sum : mg "sum" = none
  b_tuple : mg "tuple" = none
  b_zip : mg "zip" = none
  c_MOST_LENGTH : ∃ t, mg "MOST_LENGTH" = some (.int 30 t)
  c_MOST_MARKS_LET : ∃ t, mg "MOST_MARKS_LET" = some (.int 60 t)
  c_MOST_SOUGHT : ∃ t, mg "MOST_SOUGHT" = some (.int 6 t)
section
variable {P : Program} {w : World} {K : PySem.W.Frag} {mg : Str → Option Value} {base : Heap}
theorem nd_is_whole : (["value"] : List Str).Nodup := by decide +kernel
theorem w_is_whole (A : Fa K mg) : Pr P w K mg base "is_whole" s_is_whole 1 1 ["value"] m_is_whole := by
  obtain ⟨f, fd, F, g⟩ := A.d_is_whole
  refine ⟨f, fd, F, g, F.bindsN fun _ _ _ _ _ _ us hl => match us, hl with | [_], _ => rfl, fnG_mir (N := ["value"]) (k := 0) (t := t_is_whole) F ⟨rfl, rfl, rfl, by decide +kernel, rfl, by decide +kernel, by decide +kernel⟩ rfl fun as cdv A0 outer s H E hr hgd => ?_⟩
  have nd := nd_is_whole
  exact (pdss_one (pds_ret (pd_and (pd_isi isi_int PyProof.Rows.boot_int rfl A.b_isinstance rfl A.b_int (pd_rd (i := 0) rfl (vis_of rfl))) (pd_one (pd_not (pd_isi isi_bool PyProof.Rows.boot_bool rfl A.b_isinstance rfl A.b_bool (pd_rd (i := 0) rfl (vis_of rfl))))))))
theorem nd_is_whole_between : (["value", "low", "high"] : List Str).Nodup := by decide +kernel
theorem w_is_whole_between (A : Fa K mg) : Pr P w K mg base "is_whole_between" s_is_whole_between 2 3 ["value", "low", "high"] m_is_whole_between := by
  obtain ⟨f, fd, F, g⟩ := A.d_is_whole_between
  obtain ⟨f_is_whole, fd_is_whole, F_is_whole, g_is_whole, b_is_whole, W_is_whole⟩ := w_is_whole (P := P) (w := w) (base := base) A
  refine ⟨f, fd, F, g, F.bindsN fun _ _ _ _ _ _ us hl => match us, hl with | [_, _, _], _ => rfl, fnG_mir (N := ["value", "low", "high"]) (k := 1) (t := t_is_whole_between) F ⟨rfl, rfl, rfl, by decide +kernel, rfl, by decide +kernel, by decide +kernel⟩ rfl fun as cdv A0 outer s H E hr hgd => ?_⟩
  have nd := nd_is_whole_between
  exact (pdss_one (pds_ret (pd_and (pd_callG W_is_whole (hr.mono (by decide)) hgd rfl g_is_whole F_is_whole.kp b_is_whole hx_cx (pda_cons (pd_ag (i := 0) rfl (vis_of rfl)) pda_nil)) (pd_one (pd_chain op_le gd_le op_le gd_le (pd_rd (i := 1) rfl (vis_of rfl)) (pd_rd (i := 0) rfl (vis_of rfl)) (pd_rd (i := 2) rfl (vis_of rfl)))))))
theorem nd_wrong_in_marks : (["value", "index", "each"] : List Str).Nodup := by decide +kernel
theorem w_wrong_in_marks (A : Fa K mg) : Pr P w K mg base "wrong_in_marks" s_wrong_in_marks 2 1 ["value"] m_wrong_in_marks := by
  obtain ⟨f, fd, F, g⟩ := A.d_wrong_in_marks
  obtain ⟨f_is_whole, fd_is_whole, F_is_whole, g_is_whole, b_is_whole, W_is_whole⟩ := w_is_whole (P := P) (w := w) (base := base) A
  refine ⟨f, fd, F, g, F.bindsN fun _ _ _ _ _ _ us hl => match us, hl with | [_], _ => rfl, fnG_mir (N := ["value", "index", "each"]) (k := 1) (t := t_wrong_in_marks) F ⟨rfl, rfl, rfl, by decide +kernel, rfl, by decide +kernel, by decide +kernel⟩ rfl fun as cdv A0 outer s H E hr hgd => ?_⟩
  have nd := nd_wrong_in_marks
  exact (pdss_cons (pds_if (pdt_w (pdt_or (pdt_not (pdt_tru (pd_isi isi_tuple PyProof.Rows.boot_tuple rfl A.b_isinstance rfl A.b_tuple (pd_rd (i := 0) rfl (vis_of rfl))))) (pdt_or1 (pdt_gt (pd_bu cr_len boot_len rfl A.b_len (pda_cons (pd_rd (i := 0) rfl (vis_of rfl)) pda_nil)) (Exists.elim A.c_MOST_MARKS_LET fun _ h => pd_glob rfl h (v := V.int 60) ⟨_, rfl⟩ (fun _ => .int _)))))) (pdss_one (pds_ret (pd_lst (pda_cons pd_non pda_nil)))) pdss_nil) (pdss_cons (pds_for hp_cx rfl (pdi_enum (b := false) (pd_var (i := 0) rfl (vis_of rfl)) rfl A.b_enumerate) (pdg_tup (n := 2) rfl (pdgs_cons (pdg_name (i := 1) nd rfl (loc_of rfl)) (pdgs_cons (pdg_name (i := 2) nd rfl (loc_of rfl)) pdgs_nil))) (pdss_cons (pds_if (pdt_w (pdt_or (pdt_not (pdt_tru (pd_callG W_is_whole (hr.mono (by decide)) hgd rfl g_is_whole F_is_whole.kp b_is_whole hx_cx (pda_cons (pd_ag (i := 2) rfl (vis_of rfl)) pda_nil)))) (pdt_or1 (pdt_w (pdt_and (pdt_gt (pd_rd (i := 1) rfl (vis_of rfl)) pd_int) (pdt_and1 (pdt_ge (pd_ix (pd_rd (i := 0) rfl (vis_of rfl)) (pd_sub (pd_rd (i := 1) rfl (vis_of rfl)) pd_int)) (pd_rd (i := 2) rfl (vis_of rfl))))))))) (pdss_one (pds_ret (pd_lst (pda_cons (pd_var (i := 1) rfl (vis_of rfl)) pda_nil)))) pdss_nil) pdss_nil)) (pdss_one (pds_ret (pd_lst pda_nil)))))
theorem nd_gaps_by : (["marks", "one", "two"] : List Str).Nodup := by decide +kernel
theorem w_gaps_by (A : Fa K mg) : Pr P w K mg base "gaps_by" s_gaps_by 1 1 ["marks"] m_gaps_by := by
  obtain ⟨f, fd, F, g⟩ := A.d_gaps_by
  refine ⟨f, fd, F, g, F.bindsN fun _ _ _ _ _ _ us hl => match us, hl with | [_], _ => rfl, fnG_mir (N := ["marks", "one", "two"]) (k := 0) (t := t_gaps_by) F ⟨rfl, rfl, rfl, by decide +kernel, rfl, by decide +kernel, by decide +kernel⟩ rfl fun as cdv A0 outer s H E hr hgd => ?_⟩
  have nd := nd_gaps_by
  exact (pdss_one (pds_ret (pd_buT cr_tuple PyProof.Rows.boot_tuple rfl A.b_tuple (pda_cons (pd_lc (own := [("one", 1), ("two", 2)]) (vsg := [1, 2]) rfl nd (pdi_zip (b := true) (pd_rd (i := 0) rfl (vis_of rfl)) (pd_slice (pd_rd (i := 0) rfl (vis_of rfl)) (pdp_some pd_int) pdp_none) rfl A.b_zip) (blkOk_by rfl) (fun _ _ _ _ _ => (pdg_tup (n := 2) rfl (pdgs_cons (pdg_name (i := 1) nd rfl (loc_of rfl)) (pdgs_cons (pdg_name (i := 2) nd rfl (loc_of rfl)) pdgs_nil)))) (fun _ _ _ _ _ => pdts_nil) (fun _ _ _ _ _ => (pd_sub (pd_rd (i := 2) rfl (vis_of rfl)) (pd_rd (i := 1) rfl (vis_of rfl))))) pda_nil))))
theorem nd_ruler_lengths : (["marks", "at", "two", "one"] : List Str).Nodup := by decide +kernel
theorem w_ruler_lengths (A : Fa K mg) : Pr P w K mg base "ruler_lengths" s_ruler_lengths 1 1 ["marks"] m_ruler_lengths := by
  obtain ⟨f, fd, F, g⟩ := A.d_ruler_lengths
  refine ⟨f, fd, F, g, F.bindsN fun _ _ _ _ _ _ us hl => match us, hl with | [_], _ => rfl, fnG_mir (N := ["marks", "at", "two", "one"]) (k := 0) (t := t_ruler_lengths) F ⟨rfl, rfl, rfl, by decide +kernel, rfl, by decide +kernel, by decide +kernel⟩ rfl fun as cdv A0 outer s H E hr hgd => ?_⟩
  have nd := nd_ruler_lengths
  exact (pdss_one (pds_ret (pd_lc2 (own := [("at", 1), ("two", 2), ("one", 3)]) (vsg := [1, 2]) (vsg1 := [3]) (vs1 := [3]) rfl nd (pdi_enum (b := true) (pd_rd (i := 0) rfl (vis_of rfl)) rfl A.b_enumerate) (blkOk_by rfl) (by decide) (fun _ _ _ _ _ => (pdg_tup (n := 2) rfl (pdgs_cons (pdg_name (i := 1) nd rfl (loc_of rfl)) (pdgs_cons (pdg_name (i := 2) nd rfl (loc_of rfl)) pdgs_nil)))) (fun _ _ _ _ _ => pdts_nil) (fun _ _ _ _ _ => (pdi_items (b := false) (pd_slice (pd_rd (i := 0) rfl (vis_of rfl)) pdp_none (pdp_some (pd_rd (i := 1) rfl (vis_of rfl)))))) (fun _ _ _ _ _ => (pdg_name (i := 3) nd rfl (loc_of rfl))) (fun _ _ _ _ _ => pdts_nil) (fun _ _ _ _ _ => (pd_sub (pd_rd (i := 2) rfl (vis_of rfl)) (pd_rd (i := 3) rfl (vis_of rfl)))))))
theorem nd_is_ruler_by : (["marks", "lengths"] : List Str).Nodup := by decide +kernel
theorem w_is_ruler_by (A : Fa K mg) : Pr P w K mg base "is_ruler_by" s_is_ruler_by 2 1 ["marks"] m_is_ruler_by := by
  obtain ⟨f, fd, F, g⟩ := A.d_is_ruler_by
  obtain ⟨f_ruler_lengths, fd_ruler_lengths, F_ruler_lengths, g_ruler_lengths, b_ruler_lengths, W_ruler_lengths⟩ := w_ruler_lengths (P := P) (w := w) (base := base) A
  refine ⟨f, fd, F, g, F.bindsN fun _ _ _ _ _ _ us hl => match us, hl with | [_], _ => rfl, fnG_mir (N := ["marks", "lengths"]) (k := 1) (t := t_is_ruler_by) F ⟨rfl, rfl, rfl, by decide +kernel, rfl, by decide +kernel, by decide +kernel⟩ rfl fun as cdv A0 outer s H E hr hgd => ?_⟩
  have nd := nd_is_ruler_by
  exact (pdss_cons (pds_set (i := 1) nd rfl (loc_of rfl) (pd_callG W_ruler_lengths (hr.mono (by decide)) hgd rfl g_ruler_lengths F_ruler_lengths.kp b_ruler_lengths hx_cx (pda_cons (pd_ag (i := 0) rfl (vis_of rfl)) pda_nil))) (pdss_one (pds_ret (pd_eq (ru64 hr) (pd_bu cr_len boot_len rfl A.b_len (pda_cons (pd_buT (cr_set rfl) PyProof.Rows.boot_set rfl A.b_set (pda_cons (pd_rd (i := 1) rfl (vis_of rfl)) pda_nil)) pda_nil)) (pd_bu cr_len boot_len rfl A.b_len (pda_cons (pd_rd (i := 1) rfl (vis_of rfl)) pda_nil))))))
theorem nd_check_marks : (["value", "index"] : List Str).Nodup := by decide +kernel
theorem w_check_marks (A : Fa K mg) : Pr P w K mg base "check_marks" s_check_marks 3 1 ["value"] m_check_marks := by
  obtain ⟨f, fd, F, g⟩ := A.d_check_marks
  obtain ⟨f_wrong_in_marks, fd_wrong_in_marks, F_wrong_in_marks, g_wrong_in_marks, b_wrong_in_marks, W_wrong_in_marks⟩ := w_wrong_in_marks (P := P) (w := w) (base := base) A
  refine ⟨f, fd, F, g, F.bindsN fun _ _ _ _ _ _ us hl => match us, hl with | [_], _ => rfl, fnG_mir (N := ["value", "index"]) (k := 2) (t := t_check_marks) F ⟨rfl, rfl, rfl, by decide +kernel, rfl, by decide +kernel, by decide +kernel⟩ rfl fun as cdv A0 outer s H E hr hgd => ?_⟩
  have nd := nd_check_marks
  exact (pdss_cons (pds_for hp_cx rfl (pdi_items (b := false) (pd_callG W_wrong_in_marks (hr.mono (by decide)) hgd rfl g_wrong_in_marks F_wrong_in_marks.kp b_wrong_in_marks hx_cx (pda_cons (pd_ag (i := 0) rfl (vis_of rfl)) pda_nil))) (pdg_name (i := 1) nd rfl (loc_of rfl)) pdss_bad) pdss_nil)
theorem nd_check_number : (["value", "low", "high"] : List Str).Nodup := by decide +kernel
theorem w_check_number (A : Fa K mg) : Pr P w K mg base "check_number" s_check_number 3 3 ["value", "low", "high"] m_check_number := by
  obtain ⟨f, fd, F, g⟩ := A.d_check_number
  obtain ⟨f_is_whole_between, fd_is_whole_between, F_is_whole_between, g_is_whole_between, b_is_whole_between, W_is_whole_between⟩ := w_is_whole_between (P := P) (w := w) (base := base) A
  refine ⟨f, fd, F, g, F.bindsN fun _ _ _ _ _ _ us hl => match us, hl with | [_, _, _], _ => rfl, fnG_mir (N := ["value", "low", "high"]) (k := 2) (t := t_check_number) F ⟨rfl, rfl, rfl, by decide +kernel, rfl, by decide +kernel, by decide +kernel⟩ rfl fun as cdv A0 outer s H E hr hgd => ?_⟩
  have nd := nd_check_number
  exact (pdss_cons (pds_if (pdt_not (pdt_tru (pd_callG W_is_whole_between (hr.mono (by decide)) hgd rfl g_is_whole_between F_is_whole_between.kp b_is_whole_between hx_cx (pda_cons (pd_ag (i := 0) rfl (vis_of rfl)) (pda_cons (pd_ag (i := 1) rfl (vis_of rfl)) (pda_cons (pd_ag (i := 2) rfl (vis_of rfl)) pda_nil)))))) pdss_bad pdss_nil) pdss_nil)
theorem nd_is_place_let : (["ruler", "place", "fresh", "mark", "known", "each"] : List Str).Nodup := by decide +kernel
theorem w_is_place_let (A : Fa K mg) : Pr P w K mg base "is_place_let" s_is_place_let 2 2 ["ruler", "place"] m_is_place_let := by
  obtain ⟨f, fd, F, g⟩ := A.d_is_place_let
  obtain ⟨f_ruler_lengths, fd_ruler_lengths, F_ruler_lengths, g_ruler_lengths, b_ruler_lengths, W_ruler_lengths⟩ := w_ruler_lengths (P := P) (w := w) (base := base) A
  refine ⟨f, fd, F, g, F.bindsN fun _ _ _ _ _ _ us hl => match us, hl with | [_, _], _ => rfl, fnG_mir (N := ["ruler", "place", "fresh", "mark", "known", "each"]) (k := 1) (t := t_is_place_let) F ⟨rfl, rfl, rfl, by decide +kernel, rfl, by decide +kernel, by decide +kernel⟩ rfl fun as cdv A0 outer s H E hr hgd => ?_⟩
  have nd := nd_is_place_let
  exact (pdss_cons (pds_if (pdt_inA (ru65 hr) (pd_rd (i := 1) rfl (vis_of rfl)) (pd_rd (i := 0) rfl (vis_of rfl))) (pdss_one (pds_ret pd_bl)) pdss_nil) (pdss_cons (pds_setLc (i := 2) (own := [("mark", 3)]) (vsg := [3]) rfl nd rfl rfl (pdi_items (b := true) (pd_rd (i := 0) rfl (vis_of rfl))) (blkOk_by rfl) (fun _ _ _ _ _ => (pdg_name (i := 3) nd rfl (loc_of rfl))) (fun _ _ _ _ _ => pdts_nil) (fun _ _ _ _ _ => (pd_bu cr_abs PyProof.Rows.boot_abs rfl A.b_abs (pda_cons (pd_sub (pd_rd (i := 1) rfl (vis_of rfl)) (pd_rd (i := 3) rfl (vis_of rfl))) pda_nil)))) (pdss_cons (pds_set (i := 4) nd rfl (loc_of rfl) (pd_buT (cr_set rfl) PyProof.Rows.boot_set rfl A.b_set (pda_cons (pd_callG W_ruler_lengths (hr.mono (by decide)) hgd rfl g_ruler_lengths F_ruler_lengths.kp b_ruler_lengths hx_cx (pda_cons (pd_ag (i := 0) rfl (vis_of rfl)) pda_nil)) pda_nil))) (pdss_one (pds_ret (pd_and (pd_eq (ru64 hr) (pd_bu cr_len boot_len rfl A.b_len (pda_cons (pd_buT (cr_set rfl) PyProof.Rows.boot_set rfl A.b_set (pda_cons (pd_rd (i := 2) rfl (vis_of rfl)) pda_nil)) pda_nil)) (pd_bu cr_len boot_len rfl A.b_len (pda_cons (pd_rd (i := 2) rfl (vis_of rfl)) pda_nil))) (pd_one (pd_not (pd_bu (cr_any rfl) PyProof.Rows.boot_any rfl A.b_any (pda_cons (pd_lc (own := [("each", 5)]) (vsg := [5]) rfl nd (pdi_items (b := true) (pd_rd (i := 2) rfl (vis_of rfl))) (blkOk_by rfl) (fun _ _ _ _ _ => (pdg_name (i := 5) nd rfl (loc_of rfl))) (fun _ _ _ _ _ => pdts_nil) (fun _ _ _ _ _ => (pd_inA (ru65 hr) (pd_rd (i := 5) rfl (vis_of rfl)) (pd_rd (i := 4) rfl (vis_of rfl))))) pda_nil))))))))))
theorem nd_rulers_within : (["ruler", "places", "place"] : List Str).Nodup := by decide +kernel
theorem w_rulers_within (A : Fa K mg) : Pr P w K mg base "rulers_within" s_rulers_within 3 1 ["ruler"] m_rulers_within := by
  obtain ⟨f, fd, F, g⟩ := A.d_rulers_within
  obtain ⟨f_is_place_let, fd_is_place_let, F_is_place_let, g_is_place_let, b_is_place_let, W_is_place_let⟩ := w_is_place_let (P := P) (w := w) (base := base) A
  refine ⟨f, fd, F, g, F.bindsN fun _ _ _ _ _ _ us hl => match us, hl with | [_], _ => rfl, fnG_mir (N := ["ruler", "places", "place"]) (k := 2) (t := t_rulers_within) F ⟨rfl, rfl, rfl, by decide +kernel, rfl, by decide +kernel, by decide +kernel⟩ rfl fun as cdv A0 outer s H E hr hgd => ?_⟩
  have nd := nd_rulers_within
  exact (pdss_cons (pds_set (i := 1) nd rfl (loc_of rfl) (pd_buT cr_range boot_range rfl A.b_range (pda_cons (pd_add (pd_ix (pd_rd (i := 0) rfl (vis_of rfl)) (pd_neg pd_int)) pd_int) (pda_cons (pd_ix (pd_rd (i := 0) rfl (vis_of rfl)) (pd_neg pd_int)) pda_nil)))) (pdss_one (pds_ret (pd_lc (own := [("place", 2)]) (vsg := [2]) rfl nd (pdi_items (b := true) (pd_rd (i := 1) rfl (vis_of rfl))) (blkOk_by rfl) (fun _ _ _ _ _ => (pdg_name (i := 2) nd rfl (loc_of rfl))) (fun _ _ _ _ _ => (pdts_one (pdt_tru (pd_callG W_is_place_let (hr.mono (by decide)) hgd rfl g_is_place_let F_is_place_let.kp b_is_place_let passL (pda_cons (pd_ag (i := 0) rfl (vis_of rfl)) (pda_cons (pd_ag (i := 2) rfl (vis_of rfl)) pda_nil)))))) (fun _ _ _ _ _ => (pd_add (pd_slice (pd_rd (i := 0) rfl (vis_of rfl)) pdp_none (pdp_some (pd_neg pd_int))) (pd_tup (pda_cons (pd_var (i := 2) rfl (vis_of rfl)) (pda_cons (pd_ix (pd_rd (i := 0) rfl (vis_of rfl)) (pd_neg pd_int)) pda_nil)))))))))
theorem nd_rulers_of_length : (["many", "length", "found", "_", "ruler", "more"] : List Str).Nodup := by decide +kernel
theorem w_rulers_of_length (A : Fa K mg) : Pr P w K mg base "rulers_of_length" s_rulers_of_length 4 2 ["many", "length"] m_rulers_of_length := by
  obtain ⟨f, fd, F, g⟩ := A.d_rulers_of_length
  obtain ⟨f_rulers_within, fd_rulers_within, F_rulers_within, g_rulers_within, b_rulers_within, W_rulers_within⟩ := w_rulers_within (P := P) (w := w) (base := base) A
  refine ⟨f, fd, F, g, F.bindsN fun _ _ _ _ _ _ us hl => match us, hl with | [_, _], _ => rfl, fnG_mir (N := ["many", "length", "found", "_", "ruler", "more"]) (k := 3) (t := t_rulers_of_length) F ⟨rfl, rfl, rfl, by decide +kernel, rfl, by decide +kernel, by decide +kernel⟩ rfl fun as cdv A0 outer s H E hr hgd => ?_⟩
  have nd := nd_rulers_of_length
  exact (pdss_cons (pds_if (pdt_w (pdt_or (pdt_eq (ru64 hr) (pd_rd (i := 0) rfl (vis_of rfl)) pd_int) (pdt_or1 (pdt_eq (ru64 hr) (pd_rd (i := 1) rfl (vis_of rfl)) pd_int)))) (pdss_one (pds_ret (pd_if (pdt_w (pdt_and (pdt_eq (ru64 hr) (pd_rd (i := 0) rfl (vis_of rfl)) pd_int) (pdt_and1 (pdt_eq (ru64 hr) (pd_rd (i := 1) rfl (vis_of rfl)) pd_int)))) (pd_tup (pda_cons (pd_tup (pda_cons pd_int pda_nil)) pda_nil)) (pd_tup pda_nil)))) pdss_nil) (pdss_cons (pds_set (i := 2) nd rfl (loc_of rfl) (pd_lst (pda_cons (pd_tup (pda_cons pd_int (pda_cons (pd_var (i := 1) rfl (vis_of rfl)) pda_nil))) pda_nil))) (pdss_cons (pds_for hp_cx rfl (pdi_range1 (b := false) (pda_cons (pd_sub (pd_rd (i := 0) rfl (vis_of rfl)) pd_int) pda_nil) rfl A.b_range) (pdg_name (i := 3) nd rfl (loc_of rfl)) (pdss_cons (pds_setLc2 (i := 2) (own := [("ruler", 4), ("more", 5)]) (vsg := [4]) (vsg1 := [5]) (vs1 := [5]) rfl nd rfl rfl (pdi_items (b := true) (pd_rd (i := 2) rfl (vis_of rfl))) (blkOk_by rfl) (by decide) (fun _ _ _ _ _ => (pdg_name (i := 4) nd rfl (loc_of rfl))) (fun _ _ _ _ _ => pdts_nil) (fun _ _ _ _ _ => (pdi_items (b := false) (pd_callG W_rulers_within (hr.mono (by decide)) hgd rfl g_rulers_within F_rulers_within.kp b_rulers_within passL (pda_cons (pd_ag (i := 4) rfl (vis_of rfl)) pda_nil)))) (fun _ _ _ _ _ => (pdg_name (i := 5) nd rfl (loc_of rfl))) (fun _ _ _ _ _ => pdts_nil) (fun _ _ _ _ _ => (pd_var (i := 5) rfl (vis_of rfl)))) pdss_nil)) (pdss_one (pds_ret (pd_buT cr_tuple PyProof.Rows.boot_tuple rfl A.b_tuple (pda_cons (pd_rd (i := 2) rfl (vis_of rfl)) pda_nil)))))))
theorem nd_shortest_by : (["many", "length"] : List Str).Nodup := by decide +kernel
theorem w_shortest_by (A : Fa K mg) : Pr P w K mg base "shortest_by" s_shortest_by 5 1 ["many"] m_shortest_by := by
  obtain ⟨f, fd, F, g⟩ := A.d_shortest_by
  obtain ⟨f_rulers_of_length, fd_rulers_of_length, F_rulers_of_length, g_rulers_of_length, b_rulers_of_length, W_rulers_of_length⟩ := w_rulers_of_length (P := P) (w := w) (base := base) A
  refine ⟨f, fd, F, g, F.bindsN fun _ _ _ _ _ _ us hl => match us, hl with | [_], _ => rfl, fnG_mir (N := ["many", "length"]) (k := 4) (t := t_shortest_by fuelN) F ⟨rfl, rfl, rfl, by decide +kernel, rfl, by decide +kernel, by decide +kernel⟩ rfl fun as cdv A0 outer s H E hr hgd => ?_⟩
  have nd := nd_shortest_by
  exact (pdss_cons (pds_set (i := 1) nd rfl (loc_of rfl) (pd_fdiv (pd_mul (pd_rd (i := 0) rfl (vis_of rfl)) (pd_sub (pd_rd (i := 0) rfl (vis_of rfl)) pd_int)) pd_int)) (pdss_cons (pds_while fuelN hp_cx (pdt_eq (ru64 hr) (pd_callG W_rulers_of_length (hr.mono (by decide)) hgd rfl g_rulers_of_length F_rulers_of_length.kp b_rulers_of_length hx_cx (pda_cons (pd_ag (i := 0) rfl (vis_of rfl)) (pda_cons (pd_ag (i := 1) rfl (vis_of rfl)) pda_nil))) (pd_tup pda_nil)) (pdss_cons (pds_augI (i := 1) ip_add nd rfl (loc_of rfl) pd_int) pdss_nil)) (pdss_one (pds_retV (i := 1) rfl (vis_of rfl)))))
theorem nd_rulers_of : (["many", "length"] : List Str).Nodup := by decide +kernel
theorem w_rulers_of (A : Fa K mg) : Pr P w K mg base "rulers_of" s_rulers_of 5 2 ["many", "length"] m_rulers_of := by
  obtain ⟨f, fd, F, g⟩ := A.d_rulers_of
  obtain ⟨f_check_number, fd_check_number, F_check_number, g_check_number, b_check_number, W_check_number⟩ := w_check_number (P := P) (w := w) (base := base) A
  obtain ⟨f_rulers_of_length, fd_rulers_of_length, F_rulers_of_length, g_rulers_of_length, b_rulers_of_length, W_rulers_of_length⟩ := w_rulers_of_length (P := P) (w := w) (base := base) A
  refine ⟨f, fd, F, g, F.bindsN fun _ _ _ _ _ _ us hl => match us, hl with | [_, _], _ => rfl, fnG_mir (N := ["many", "length"]) (k := 4) (t := t_rulers_of) F ⟨rfl, rfl, rfl, by decide +kernel, rfl, by decide +kernel, by decide +kernel⟩ rfl fun as cdv A0 outer s H E hr hgd => ?_⟩
  have nd := nd_rulers_of
  exact (pdss_cons (pds_expr (pd_callG W_check_number (hr.mono (by decide)) hgd rfl g_check_number F_check_number.kp b_check_number hx_cx (pda_cons (pd_ag (i := 0) rfl (vis_of rfl)) (pda_cons pd_int (pda_cons (Exists.elim A.c_MOST_SOUGHT fun _ h => pd_glob rfl h (v := V.int 6) ⟨_, rfl⟩ (fun _ => .int _)) pda_nil))))) (pdss_cons (pds_expr (pd_callG W_check_number (hr.mono (by decide)) hgd rfl g_check_number F_check_number.kp b_check_number hx_cx (pda_cons (pd_ag (i := 1) rfl (vis_of rfl)) (pda_cons pd_int (pda_cons (Exists.elim A.c_MOST_LENGTH fun _ h => pd_glob rfl h (v := V.int 30) ⟨_, rfl⟩ (fun _ => .int _)) pda_nil))))) (pdss_one (pds_ret (pd_callG W_rulers_of_length (hr.mono (by decide)) hgd rfl g_rulers_of_length F_rulers_of_length.kp b_rulers_of_length hx_cx (pda_cons (pd_ag (i := 0) rfl (vis_of rfl)) (pda_cons (pd_ag (i := 1) rfl (vis_of rfl)) pda_nil)))))))
theorem nd_shortest_length : (["many"] : List Str).Nodup := by decide +kernel
theorem w_shortest_length (A : Fa K mg) : Pr P w K mg base "shortest_length" s_shortest_length 6 1 ["many"] m_shortest_length := by
  obtain ⟨f, fd, F, g⟩ := A.d_shortest_length
  obtain ⟨f_check_number, fd_check_number, F_check_number, g_check_number, b_check_number, W_check_number⟩ := w_check_number (P := P) (w := w) (base := base) A
  obtain ⟨f_shortest_by, fd_shortest_by, F_shortest_by, g_shortest_by, b_shortest_by, W_shortest_by⟩ := w_shortest_by (P := P) (w := w) (base := base) A
  refine ⟨f, fd, F, g, F.bindsN fun _ _ _ _ _ _ us hl => match us, hl with | [_], _ => rfl, fnG_mir (N := ["many"]) (k := 5) (t := t_shortest_length) F ⟨rfl, rfl, rfl, by decide +kernel, rfl, by decide +kernel, by decide +kernel⟩ rfl fun as cdv A0 outer s H E hr hgd => ?_⟩
  have nd := nd_shortest_length
  exact (pdss_cons (pds_expr (pd_callG W_check_number (hr.mono (by decide)) hgd rfl g_check_number F_check_number.kp b_check_number hx_cx (pda_cons (pd_ag (i := 0) rfl (vis_of rfl)) (pda_cons pd_int (pda_cons (Exists.elim A.c_MOST_SOUGHT fun _ h => pd_glob rfl h (v := V.int 6) ⟨_, rfl⟩ (fun _ => .int _)) pda_nil))))) (pdss_one (pds_ret (pd_callG W_shortest_by (hr.mono (by decide)) hgd rfl g_shortest_by F_shortest_by.kp b_shortest_by hx_cx (pda_cons (pd_ag (i := 0) rfl (vis_of rfl)) pda_nil)))))
theorem nd_shortest_rulers : (["many"] : List Str).Nodup := by decide +kernel
theorem w_shortest_rulers (A : Fa K mg) : Pr P w K mg base "shortest_rulers" s_shortest_rulers 6 1 ["many"] m_shortest_rulers := by
  obtain ⟨f, fd, F, g⟩ := A.d_shortest_rulers
  obtain ⟨f_check_number, fd_check_number, F_check_number, g_check_number, b_check_number, W_check_number⟩ := w_check_number (P := P) (w := w) (base := base) A
  obtain ⟨f_rulers_of_length, fd_rulers_of_length, F_rulers_of_length, g_rulers_of_length, b_rulers_of_length, W_rulers_of_length⟩ := w_rulers_of_length (P := P) (w := w) (base := base) A
  obtain ⟨f_shortest_by, fd_shortest_by, F_shortest_by, g_shortest_by, b_shortest_by, W_shortest_by⟩ := w_shortest_by (P := P) (w := w) (base := base) A
  refine ⟨f, fd, F, g, F.bindsN fun _ _ _ _ _ _ us hl => match us, hl with | [_], _ => rfl, fnG_mir (N := ["many"]) (k := 5) (t := t_shortest_rulers) F ⟨rfl, rfl, rfl, by decide +kernel, rfl, by decide +kernel, by decide +kernel⟩ rfl fun as cdv A0 outer s H E hr hgd => ?_⟩
  have nd := nd_shortest_rulers
  exact (pdss_cons (pds_expr (pd_callG W_check_number (hr.mono (by decide)) hgd rfl g_check_number F_check_number.kp b_check_number hx_cx (pda_cons (pd_ag (i := 0) rfl (vis_of rfl)) (pda_cons pd_int (pda_cons (Exists.elim A.c_MOST_SOUGHT fun _ h => pd_glob rfl h (v := V.int 6) ⟨_, rfl⟩ (fun _ => .int _)) pda_nil))))) (pdss_one (pds_ret (pd_callG W_rulers_of_length (hr.mono (by decide)) hgd rfl g_rulers_of_length F_rulers_of_length.kp b_rulers_of_length hx_cx (pda_cons (pd_ag (i := 0) rfl (vis_of rfl)) (pda_cons (pd_callG W_shortest_by (hr.mono (by decide)) hgd rfl g_shortest_by F_shortest_by.kp b_shortest_by hx_cx (pda_cons (pd_ag (i := 0) rfl (vis_of rfl)) pda_nil)) pda_nil))))))
theorem nd_gaps_of : (["marks"] : List Str).Nodup := by decide +kernel
theorem w_gaps_of (A : Fa K mg) : Pr P w K mg base "gaps_of" s_gaps_of 4 1 ["marks"] m_gaps_of := by
  obtain ⟨f, fd, F, g⟩ := A.d_gaps_of
  obtain ⟨f_check_marks, fd_check_marks, F_check_marks, g_check_marks, b_check_marks, W_check_marks⟩ := w_check_marks (P := P) (w := w) (base := base) A
  obtain ⟨f_gaps_by, fd_gaps_by, F_gaps_by, g_gaps_by, b_gaps_by, W_gaps_by⟩ := w_gaps_by (P := P) (w := w) (base := base) A
  refine ⟨f, fd, F, g, F.bindsN fun _ _ _ _ _ _ us hl => match us, hl with | [_], _ => rfl, fnG_mir (N := ["marks"]) (k := 3) (t := t_gaps_of) F ⟨rfl, rfl, rfl, by decide +kernel, rfl, by decide +kernel, by decide +kernel⟩ rfl fun as cdv A0 outer s H E hr hgd => ?_⟩
  have nd := nd_gaps_of
  exact (pdss_cons (pds_expr (pd_callG W_check_marks (hr.mono (by decide)) hgd rfl g_check_marks F_check_marks.kp b_check_marks hx_cx (pda_cons (pd_ag (i := 0) rfl (vis_of rfl)) pda_nil))) (pdss_one (pds_ret (pd_callG W_gaps_by (hr.mono (by decide)) hgd rfl g_gaps_by F_gaps_by.kp b_gaps_by hx_cx (pda_cons (pd_ag (i := 0) rfl (vis_of rfl)) pda_nil)))))
theorem nd_is_ruler : (["marks"] : List Str).Nodup := by decide +kernel
theorem w_is_ruler (A : Fa K mg) : Pr P w K mg base "is_ruler" s_is_ruler 4 1 ["marks"] m_is_ruler := by
  obtain ⟨f, fd, F, g⟩ := A.d_is_ruler
  obtain ⟨f_check_marks, fd_check_marks, F_check_marks, g_check_marks, b_check_marks, W_check_marks⟩ := w_check_marks (P := P) (w := w) (base := base) A
  obtain ⟨f_is_ruler_by, fd_is_ruler_by, F_is_ruler_by, g_is_ruler_by, b_is_ruler_by, W_is_ruler_by⟩ := w_is_ruler_by (P := P) (w := w) (base := base) A
  refine ⟨f, fd, F, g, F.bindsN fun _ _ _ _ _ _ us hl => match us, hl with | [_], _ => rfl, fnG_mir (N := ["marks"]) (k := 3) (t := t_is_ruler) F ⟨rfl, rfl, rfl, by decide +kernel, rfl, by decide +kernel, by decide +kernel⟩ rfl fun as cdv A0 outer s H E hr hgd => ?_⟩
  have nd := nd_is_ruler
  exact (pdss_cons (pds_expr (pd_callG W_check_marks (hr.mono (by decide)) hgd rfl g_check_marks F_check_marks.kp b_check_marks hx_cx (pda_cons (pd_ag (i := 0) rfl (vis_of rfl)) pda_nil))) (pdss_one (pds_ret (pd_callG W_is_ruler_by (hr.mono (by decide)) hgd rfl g_is_ruler_by F_is_ruler_by.kp b_is_ruler_by hx_cx (pda_cons (pd_ag (i := 0) rfl (vis_of rfl)) pda_nil)))))
theorem nd__law_spring : (["_law_script", "_law_turn", "_law_here", "_law_mixed", "_law_cell"] : List Str).Nodup := by decide +kernel
theorem w__law_spring (A : Fa K mg) : Pr P w K mg base "_law_spring" s__law_spring 1 2 ["_law_script", "_law_turn"] m__law_spring := by
  obtain ⟨f, fd, F, g⟩ := A.d__law_spring
  refine ⟨f, fd, F, g, F.bindsN fun _ _ _ _ _ _ us hl => match us, hl with | [_, _], _ => rfl, fnG_mir (N := ["_law_script", "_law_turn", "_law_here", "_law_mixed", "_law_cell"]) (k := 0) (t := t__law_spring) F ⟨rfl, rfl, rfl, by decide +kernel, rfl, by decide +kernel, by decide +kernel⟩ rfl fun as cdv A0 outer s H E hr hgd => ?_⟩
  have nd := nd__law_spring
  exact (pdss_cons (pds_set (i := 2) nd rfl (loc_of rfl) (pd_if (pdt_lt (pd_rd (i := 1) rfl (vis_of rfl)) (pd_bu cr_len boot_len rfl A.b_len (pda_cons (pd_rd (i := 0) rfl (vis_of rfl)) pda_nil))) (pd_buT cr_int PyProof.Rows.boot_int rfl A.b_int (pda_cons (pd_ix (pd_rd (i := 0) rfl (vis_of rfl)) (pd_rd (i := 1) rfl (vis_of rfl))) pda_nil)) (pd_add (pd_mul pd_int (pd_rd (i := 1) rfl (vis_of rfl))) pd_int))) (pdss_cons (pds_set (i := 3) nd rfl (loc_of rfl) (pd_add pd_int (pd_mul pd_int (pd_rd (i := 1) rfl (vis_of rfl))))) (pdss_cons (pds_for hp_cx rfl (pdi_items (b := false) (pd_slice (pd_rd (i := 0) rfl (vis_of rfl)) pdp_none (pdp_some pd_int))) (pdg_name (i := 4) nd rfl (loc_of rfl)) (pdss_cons (pds_set (i := 3) nd rfl (loc_of rfl) (pd_mod (pd_buT cr_int PyProof.Rows.boot_int rfl A.b_int (pda_cons (pd_add (pd_add (pd_mul (pd_rd (i := 3) rfl (vis_of rfl)) pd_int) (pd_mul (pd_mod (pd_buT cr_int PyProof.Rows.boot_int rfl A.b_int (pda_cons (pd_rd (i := 4) rfl (vis_of rfl)) pda_nil)) pd_int) pd_int)) pd_int) pda_nil)) pd_int)) pdss_nil)) (pdss_cons (pds_set (i := 3) nd rfl (loc_of rfl) (pd_mod (pd_buT cr_int PyProof.Rows.boot_int rfl A.b_int (pda_cons (pd_add (pd_mul (pd_rd (i := 3) rfl (vis_of rfl)) pd_int) (pd_mul (pd_mod (pd_buT cr_int PyProof.Rows.boot_int rfl A.b_int (pda_cons (pd_rd (i := 2) rfl (vis_of rfl)) pda_nil)) pd_int) pd_int)) pda_nil)) pd_int)) (pdss_frz 3 (pdss_one (pds_ret (pd_lst (pda_cons (pd_if (pdt_w (pdt_or (pdt_lt (pd_rd (i := 2) rfl (vis_of rfl)) pd_int) (pdt_or1 (pdt_ge (pd_rd (i := 2) rfl (vis_of rfl)) (pd_pow pd_int pd_int))))) (pd_bu cr_abs PyProof.Rows.boot_abs rfl A.b_abs (pda_cons (pd_rd (i := 2) rfl (vis_of rfl)) pda_nil)) pd_int) (pda_cons (pd_var (i := 3) rfl (vis_of rfl)) (pda_cons pd_int pda_nil)))))))))))
theorem nd__law_draw : (["_law_spring_here", "_law_many", "_law_figure", "_law_mixed"] : List Str).Nodup := by decide +kernel
theorem w__law_draw (A : Fa K mg) : Pr P w K mg base "_law_draw" s__law_draw 1 2 ["_law_spring_here", "_law_many"] m__law_draw := by
  obtain ⟨f, fd, F, g⟩ := A.d__law_draw
  refine ⟨f, fd, F, g, F.bindsN fun _ _ _ _ _ _ us hl => match us, hl with | [_, _], _ => rfl, fnG_mir (N := ["_law_spring_here", "_law_many", "_law_figure", "_law_mixed"]) (k := 0) (t := t__law_draw) F ⟨rfl, rfl, rfl, by decide +kernel, rfl, by decide +kernel, by decide +kernel⟩ rfl fun as cdv A0 outer s H E hr hgd => ?_⟩
  have nd := nd__law_draw
  exact (pdss_cons (pds_if (pdt_gt (pd_spr (i := 0) (k := 0) rfl (vis_of rfl)) pd_int) (pdss_cons (pds_sprPair (i := 0) (k := 0) (j := 2) rfl nd rfl (vis_of rfl) rfl (loc_of rfl) (pd_bu cr_divmod PyProof.Rows.boot_divmod rfl A.b_divmod (pda_cons (pd_spr (i := 0) (k := 0) rfl (vis_of rfl)) (pda_cons (pd_rd (i := 1) rfl (vis_of rfl)) pda_nil)))) (pdss_one (pds_retV (i := 2) rfl (vis_of rfl)))) pdss_nil) (pdss_cons (pds_spr (i := 0) (k := 2) rfl (vis_of rfl) (pd_add (pd_spr (i := 0) (k := 2) rfl (vis_of rfl)) pd_int)) (pdss_cons (pds_set (i := 3) nd rfl (loc_of rfl) (pd_mod (pd_buT cr_int PyProof.Rows.boot_int rfl A.b_int (pda_cons (pd_add (pd_add (pd_mul (pd_spr (i := 0) (k := 1) rfl (vis_of rfl)) pd_int) (pd_mul pd_int (pd_spr (i := 0) (k := 2) rfl (vis_of rfl)))) pd_int) pda_nil)) pd_int)) (pdss_cons (pds_spr (i := 0) (k := 1) rfl (vis_of rfl) (pd_mod (pd_buT cr_int PyProof.Rows.boot_int rfl A.b_int (pda_cons (pd_add (pd_mul (pd_rd (i := 3) rfl (vis_of rfl)) (pd_add (pd_mod (pd_buT cr_int PyProof.Rows.boot_int rfl A.b_int (pda_cons (pd_rd (i := 3) rfl (vis_of rfl)) pda_nil)) pd_int) pd_int)) (pd_spr (i := 0) (k := 2) rfl (vis_of rfl))) pda_nil)) pd_int)) (pdss_one (pds_ret (pd_mod (pd_buT cr_int PyProof.Rows.boot_int rfl A.b_int (pda_cons (pd_fdiv (pd_spr (i := 0) (k := 1) rfl (vis_of rfl)) pd_int) pda_nil)) (pd_rd (i := 1) rfl (vis_of rfl)))))))))
theorem nd__law_lengths : (["_law_marks", "_law_found_here", "_law_k", "_law_each"] : List Str).Nodup := by decide +kernel
theorem w__law_lengths (A : Fa K mg) : Pr P w K mg base "_law_lengths" s__law_lengths 1 1 ["_law_marks"] m__law_lengths := by
  obtain ⟨f, fd, F, g⟩ := A.d__law_lengths
  refine ⟨f, fd, F, g, F.bindsN fun _ _ _ _ _ _ us hl => match us, hl with | [_], _ => rfl, fnG_mir (N := ["_law_marks", "_law_found_here", "_law_k", "_law_each"]) (k := 0) (t := t__law_lengths) F ⟨rfl, rfl, rfl, by decide +kernel, rfl, by decide +kernel, by decide +kernel⟩ rfl fun as cdv A0 outer s H E hr hgd => ?_⟩
  have nd := nd__law_lengths
  exact (pdss_cons (pds_set (i := 1) nd rfl (loc_of rfl) (pd_lst pda_nil)) (pdss_cons (pds_for hp_cx rfl (pdi_range1 (b := false) (pda_cons (pd_bu cr_len boot_len rfl A.b_len (pda_cons (pd_rd (i := 0) rfl (vis_of rfl)) pda_nil)) pda_nil) rfl A.b_range) (pdg_name (i := 2) nd rfl (loc_of rfl)) (pdss_cons (pds_set (i := 1) nd rfl (loc_of rfl) (pd_add (pd_rd (i := 1) rfl (vis_of rfl)) (pd_lc (own := [("_law_each", 3)]) (vsg := [3]) rfl nd (pdi_items (b := true) (pd_slice (pd_rd (i := 0) rfl (vis_of rfl)) pdp_none (pdp_some (pd_rd (i := 2) rfl (vis_of rfl))))) (blkOk_by rfl) (fun _ _ _ _ _ => (pdg_name (i := 3) nd rfl (loc_of rfl))) (fun _ _ _ _ _ => pdts_nil) (fun _ _ _ _ _ => (pd_sub (pd_ix (pd_rd (i := 0) rfl (vis_of rfl)) (pd_rd (i := 2) rfl (vis_of rfl))) (pd_rd (i := 3) rfl (vis_of rfl))))))) pdss_nil)) (pdss_one (pds_retV (i := 1) rfl (vis_of rfl)))))
theorem nd__law_unlike : (["_law_some"] : List Str).Nodup := by decide +kernel
theorem w__law_unlike (A : Fa K mg) : Pr P w K mg base "_law_unlike" s__law_unlike 1 1 ["_law_some"] m__law_unlike := by
  obtain ⟨f, fd, F, g⟩ := A.d__law_unlike
  refine ⟨f, fd, F, g, F.bindsN fun _ _ _ _ _ _ us hl => match us, hl with | [_], _ => rfl, fnG_mir (N := ["_law_some"]) (k := 0) (t := t__law_unlike) F ⟨rfl, rfl, rfl, by decide +kernel, rfl, by decide +kernel, by decide +kernel⟩ rfl fun as cdv A0 outer s H E hr hgd => ?_⟩
  have nd := nd__law_unlike
  exact (pdss_one (pds_ret (pd_eq (ru64 hr) (pd_bu cr_len boot_len rfl A.b_len (pda_cons (pd_buT (cr_set rfl) PyProof.Rows.boot_set rfl A.b_set (pda_cons (pd_rd (i := 0) rfl (vis_of rfl)) pda_nil)) pda_nil)) (pd_bu cr_len boot_len rfl A.b_len (pda_cons (pd_rd (i := 0) rfl (vis_of rfl)) pda_nil)))))
theorem nd__law_lets : (["_law_marks", "_law_place"] : List Str).Nodup := by decide +kernel
theorem w__law_lets (A : Fa K mg) : Pr P w K mg base "_law_lets" s__law_lets 2 2 ["_law_marks", "_law_place"] m__law_lets := by
  obtain ⟨f, fd, F, g⟩ := A.d__law_lets
  obtain ⟨f__law_unlike, fd__law_unlike, F__law_unlike, g__law_unlike, b__law_unlike, W__law_unlike⟩ := w__law_unlike (P := P) (w := w) (base := base) A
  obtain ⟨f__law_lengths, fd__law_lengths, F__law_lengths, g__law_lengths, b__law_lengths, W__law_lengths⟩ := w__law_lengths (P := P) (w := w) (base := base) A
  refine ⟨f, fd, F, g, F.bindsN fun _ _ _ _ _ _ us hl => match us, hl with | [_, _], _ => rfl, fnG_mir (N := ["_law_marks", "_law_place"]) (k := 1) (t := t__law_lets) F ⟨rfl, rfl, rfl, by decide +kernel, rfl, by decide +kernel, by decide +kernel⟩ rfl fun as cdv A0 outer s H E hr hgd => ?_⟩
  have nd := nd__law_lets
  exact (pdss_one (pds_ret (pd_callG W__law_unlike (hr.mono (by decide)) hgd rfl g__law_unlike F__law_unlike.kp b__law_unlike hx_cx (pda_cons (pd_callG W__law_lengths (hr.mono (by decide)) hgd rfl g__law_lengths F__law_lengths.kp b__law_lengths hx_cx (pda_cons (pd_bu (cr_sorted (ru67 hr)) PyProof.Rows.boot_sorted rfl A.b_sorted (pda_cons (pd_add (pd_rd (i := 0) rfl (vis_of rfl)) (pd_lst (pda_cons (pd_var (i := 1) rfl (vis_of rfl)) pda_nil))) pda_nil)) pda_nil)) pda_nil))))
theorem nd__law_found : (["_law_many", "_law_wide", "_law_rows", "_law_turn", "_law_longer", "_law_row", "_law_low", "_law_place"] : List Str).Nodup := by decide +kernel
theorem w__law_found (A : Fa K mg) : Pr P w K mg base "_law_found" s__law_found 3 2 ["_law_many", "_law_wide"] m__law_found := by
  obtain ⟨f, fd, F, g⟩ := A.d__law_found
  obtain ⟨f__law_lets, fd__law_lets, F__law_lets, g__law_lets, b__law_lets, W__law_lets⟩ := w__law_lets (P := P) (w := w) (base := base) A
  refine ⟨f, fd, F, g, F.bindsN fun _ _ _ _ _ _ us hl => match us, hl with | [_, _], _ => rfl, fnG_mir (N := ["_law_many", "_law_wide", "_law_rows", "_law_turn", "_law_longer", "_law_row", "_law_low", "_law_place"]) (k := 2) (t := t__law_found) F ⟨rfl, rfl, rfl, by decide +kernel, rfl, by decide +kernel, by decide +kernel⟩ rfl fun as cdv A0 outer s H E hr hgd => ?_⟩
  have nd := nd__law_found
  exact (pdss_cons (pds_if (pdt_w (pdt_or (pdt_eq (ru64 hr) (pd_rd (i := 0) rfl (vis_of rfl)) pd_int) (pdt_or1 (pdt_lt (pd_rd (i := 1) rfl (vis_of rfl)) (pd_sub (pd_rd (i := 0) rfl (vis_of rfl)) pd_int))))) (pdss_one (pds_ret (pd_if (pdt_w (pdt_and (pdt_eq (ru64 hr) (pd_rd (i := 0) rfl (vis_of rfl)) pd_int) (pdt_and1 (pdt_eq (ru64 hr) (pd_rd (i := 1) rfl (vis_of rfl)) pd_int)))) (pd_lst (pda_cons (pd_tup (pda_cons pd_int pda_nil)) pda_nil)) (pd_lst pda_nil)))) pdss_nil) (pdss_cons (pds_set (i := 2) nd rfl (loc_of rfl) (pd_lst (pda_cons (pd_lst (pda_cons pd_int (pda_cons (pd_var (i := 1) rfl (vis_of rfl)) pda_nil))) pda_nil))) (pdss_cons (pds_for hp_cx rfl (pdi_range1 (b := false) (pda_cons (pd_sub (pd_rd (i := 0) rfl (vis_of rfl)) pd_int) pda_nil) rfl A.b_range) (pdg_name (i := 3) nd rfl (loc_of rfl)) (pdss_cons (pds_set (i := 4) nd rfl (loc_of rfl) (pd_lst pda_nil)) (pdss_frz 2 (pdss_cons (pds_for hp_cx rfl (pdi_items (b := false) (pd_var (i := 2) rfl (vis_of rfl))) (pdg_name (i := 5) nd rfl (loc_of rfl)) (pdss_cons (pds_set (i := 6) nd rfl (loc_of rfl) (pd_if (pdt_gt (pd_bu cr_len boot_len rfl A.b_len (pda_cons (pd_rd (i := 5) rfl (vis_of rfl)) pda_nil)) pd_int) (pd_add (pd_ix (pd_rd (i := 5) rfl (vis_of rfl)) (pd_neg pd_int)) pd_int) pd_int)) (pdss_cons (pds_set (i := 4) nd rfl (loc_of rfl) (pd_add (pd_rd (i := 4) rfl (vis_of rfl)) (pd_lc (own := [("_law_place", 7)]) (vsg := [7]) rfl nd (pdi_range2 (b := true) (pda_cons (pd_rd (i := 6) rfl (vis_of rfl)) (pda_cons (pd_rd (i := 1) rfl (vis_of rfl)) pda_nil)) rfl A.b_range) (blkOk_by rfl) (fun _ _ _ _ _ => (pdg_name (i := 7) nd rfl (loc_of rfl))) (fun _ _ _ _ _ => (pdts_one (pdt_tru (pd_callG W__law_lets (hr.mono (by decide)) hgd rfl g__law_lets F__law_lets.kp b__law_lets passL (pda_cons (pd_ag (i := 5) rfl (vis_of rfl)) (pda_cons (pd_ag (i := 7) rfl (vis_of rfl)) pda_nil)))))) (fun _ _ _ _ _ => (pd_add (pd_rd (i := 5) rfl (vis_of rfl)) (pd_lst (pda_cons (pd_var (i := 7) rfl (vis_of rfl)) pda_nil))))))) pdss_nil))) (pdss_frz 4 (pdss_cons (pds_set (i := 2) nd rfl (loc_of rfl) (pd_var (i := 4) rfl (vis_of rfl))) pdss_nil)))))) (pdss_one (pds_ret (pd_bu (cr_sorted (ru67 hr)) PyProof.Rows.boot_sorted rfl A.b_sorted (pda_cons (pd_lc (own := [("_law_row", 5)]) (vsg := [5]) rfl nd (pdi_items (b := true) (pd_rd (i := 2) rfl (vis_of rfl))) (blkOk_by rfl) (fun _ _ _ _ _ => (pdg_name (i := 5) nd rfl (loc_of rfl))) (fun _ _ _ _ _ => pdts_nil) (fun _ _ _ _ _ => (pd_buT cr_tuple PyProof.Rows.boot_tuple rfl A.b_tuple (pda_cons (pd_bu (cr_sorted (ru67 hr)) PyProof.Rows.boot_sorted rfl A.b_sorted (pda_cons (pd_rd (i := 5) rfl (vis_of rfl)) pda_nil)) pda_nil)))) pda_nil)))))))
theorem nd__law_shortest : (["_law_many", "_law_wide", "_law_rows"] : List Str).Nodup := by decide +kernel
theorem w__law_shortest (A : Fa K mg) : Pr P w K mg base "_law_shortest" s__law_shortest 4 1 ["_law_many"] m__law_shortest := by
  obtain ⟨f, fd, F, g⟩ := A.d__law_shortest
  obtain ⟨f__law_found, fd__law_found, F__law_found, g__law_found, b__law_found, W__law_found⟩ := w__law_found (P := P) (w := w) (base := base) A
  refine ⟨f, fd, F, g, F.bindsN fun _ _ _ _ _ _ us hl => match us, hl with | [_], _ => rfl, fnG_mir (N := ["_law_many", "_law_wide", "_law_rows"]) (k := 3) (t := t__law_shortest) F ⟨rfl, rfl, rfl, by decide +kernel, rfl, by decide +kernel, by decide +kernel⟩ rfl fun as cdv A0 outer s H E hr hgd => ?_⟩
  have nd := nd__law_shortest
  exact (pdss_cons (pds_for hp_cx rfl (pdi_range1 (b := false) (pda_cons pd_int pda_nil) rfl A.b_range) (pdg_name (i := 1) nd rfl (loc_of rfl)) (pdss_cons (pds_set (i := 2) nd rfl (loc_of rfl) (pd_callG W__law_found (hr.mono (by decide)) hgd rfl g__law_found F__law_found.kp b__law_found hx_cx (pda_cons (pd_ag (i := 0) rfl (vis_of rfl)) (pda_cons (pd_ag (i := 1) rfl (vis_of rfl)) pda_nil)))) (pdss_cons (pds_if (pdt_ne (ru64 hr) (pd_rd (i := 2) rfl (vis_of rfl)) (pd_lst pda_nil)) (pdss_frz 2 (pdss_one (pds_ret (pd_tup (pda_cons (pd_var (i := 1) rfl (vis_of rfl)) (pda_cons (pd_var (i := 2) rfl (vis_of rfl)) pda_nil)))))) pdss_nil) pdss_nil))) (pdss_one (pds_ret (pd_tup (pda_cons pd_int (pda_cons (pd_lst pda_nil) pda_nil))))))
theorem nd__law_right : (["_law_spring_here", "_law_many", "_law_few", "_law_wide", "_law_due", "_law_told", "_law_each", "_law_other", "_law_mark", "_law_least", "_law_rows", "_law_best"] : List Str).Nodup := by decide +kernel
theorem w__law_right (A : Fa K mg) : Pr P w K mg base "_law_right" s__law_right 7 1 ["_law_spring_here"] m__law_right := by
  obtain ⟨f, fd, F, g⟩ := A.d__law_right
  obtain ⟨f__law_draw, fd__law_draw, F__law_draw, g__law_draw, b__law_draw, W__law_draw⟩ := w__law_draw (P := P) (w := w) (base := base) A
  obtain ⟨f__law_found, fd__law_found, F__law_found, g__law_found, b__law_found, W__law_found⟩ := w__law_found (P := P) (w := w) (base := base) A
  obtain ⟨f_rulers_of, fd_rulers_of, F_rulers_of, g_rulers_of, b_rulers_of, W_rulers_of⟩ := w_rulers_of (P := P) (w := w) (base := base) A
  obtain ⟨f_is_ruler, fd_is_ruler, F_is_ruler, g_is_ruler, b_is_ruler, W_is_ruler⟩ := w_is_ruler (P := P) (w := w) (base := base) A
  obtain ⟨f_gaps_of, fd_gaps_of, F_gaps_of, g_gaps_of, b_gaps_of, W_gaps_of⟩ := w_gaps_of (P := P) (w := w) (base := base) A
  obtain ⟨f__law_shortest, fd__law_shortest, F__law_shortest, g__law_shortest, b__law_shortest, W__law_shortest⟩ := w__law_shortest (P := P) (w := w) (base := base) A
  obtain ⟨f_shortest_length, fd_shortest_length, F_shortest_length, g_shortest_length, b_shortest_length, W_shortest_length⟩ := w_shortest_length (P := P) (w := w) (base := base) A
  obtain ⟨f_shortest_rulers, fd_shortest_rulers, F_shortest_rulers, g_shortest_rulers, b_shortest_rulers, W_shortest_rulers⟩ := w_shortest_rulers (P := P) (w := w) (base := base) A
  refine ⟨f, fd, F, g, F.bindsN fun _ _ _ _ _ _ us hl => match us, hl with | [_], _ => rfl, fnG_mir (N := ["_law_spring_here", "_law_many", "_law_few", "_law_wide", "_law_due", "_law_told", "_law_each", "_law_other", "_law_mark", "_law_least", "_law_rows", "_law_best"]) (k := 6) (t := t__law_right) F ⟨rfl, rfl, rfl, by decide +kernel, rfl, by decide +kernel, by decide +kernel⟩ rfl fun as cdv A0 outer s H E hr hgd => ?_⟩
  have nd := nd__law_right
  exact (pdss_cons (pds_par (i := 1) (j := 2) rfl nd rfl rfl (by decide) rfl rfl (pda_cons (pd_add pd_int (pd_callG W__law_draw (hr.mono (by decide)) hgd rfl g__law_draw F__law_draw.kp b__law_draw hx_cx (pda_cons (pd_ag (i := 0) rfl (vis_of rfl)) (pda_cons pd_int pda_nil)))) (pda_cons (pd_add pd_int (pd_callG W__law_draw (hr.mono (by decide)) hgd rfl g__law_draw F__law_draw.kp b__law_draw hx_cx (pda_cons (pd_ag (i := 0) rfl (vis_of rfl)) (pda_cons pd_int pda_nil)))) pda_nil)) rfl) (pdss_cons (pds_set (i := 3) nd rfl (loc_of rfl) (pd_callG W__law_draw (hr.mono (by decide)) hgd rfl g__law_draw F__law_draw.kp b__law_draw hx_cx (pda_cons (pd_ag (i := 0) rfl (vis_of rfl)) (pda_cons pd_int pda_nil)))) (pdss_cons (pds_if (pdt_eq (ru64 hr) (pd_callG W__law_draw (hr.mono (by decide)) hgd rfl g__law_draw F__law_draw.kp b__law_draw hx_cx (pda_cons (pd_ag (i := 0) rfl (vis_of rfl)) (pda_cons pd_int pda_nil))) pd_int) (pdss_cons (pds_asg (pd_tup (pda_cons pd_int (pda_cons (pd_add pd_int (pd_callG W__law_draw (hr.mono (by decide)) hgd rfl g__law_draw F__law_draw.kp b__law_draw hx_cx (pda_cons (pd_ag (i := 0) rfl (vis_of rfl)) (pda_cons pd_int pda_nil)))) pda_nil))) (pdg_tup (n := 2) rfl (pdgs_cons (pdg_name (i := 1) nd rfl (loc_of rfl)) (pdgs_cons (pdg_name (i := 3) nd rfl (loc_of rfl)) pdgs_nil)))) pdss_nil) pdss_nil) (pdss_cons (pds_if (pdt_eq (ru64 hr) (pd_callG W__law_draw (hr.mono (by decide)) hgd rfl g__law_draw F__law_draw.kp b__law_draw hx_cx (pda_cons (pd_ag (i := 0) rfl (vis_of rfl)) (pda_cons pd_int pda_nil))) pd_int) (pdss_cons (pds_set (i := 2) nd rfl (loc_of rfl) (pd_add pd_int (pd_if (pdt_eq (ru64 hr) (pd_callG W__law_draw (hr.mono (by decide)) hgd rfl g__law_draw F__law_draw.kp b__law_draw hx_cx (pda_cons (pd_ag (i := 0) rfl (vis_of rfl)) (pda_cons pd_int pda_nil))) pd_int) pd_int pd_int))) pdss_nil) pdss_nil) (pdss_frz 3 (pdss_frz 1 (pdss_cons (pds_set (i := 4) nd rfl (loc_of rfl) (pd_buT cr_tuple PyProof.Rows.boot_tuple rfl A.b_tuple (pda_cons (pd_callG W__law_found (hr.mono (by decide)) hgd rfl g__law_found F__law_found.kp b__law_found hx_cx (pda_cons (pd_ag (i := 1) rfl (vis_of rfl)) (pda_cons (pd_ag (i := 3) rfl (vis_of rfl)) pda_nil))) pda_nil))) (pdss_frz 3 (pdss_frz 1 (pdss_cons (pds_set (i := 5) nd rfl (loc_of rfl) (pd_callG W_rulers_of (hr.mono (by decide)) hgd rfl g_rulers_of F_rulers_of.kp b_rulers_of hx_cx (pda_cons (pd_ag (i := 1) rfl (vis_of rfl)) (pda_cons (pd_ag (i := 3) rfl (vis_of rfl)) pda_nil)))) (pdss_frz 3 (pdss_frz 5 (pdss_frz 1 (pdss_frz 4 (pdss_cons (pds_if (pdt_ne (ru64 hr) (pd_bu (cr_repr hgd (ru66 hr)) PyProof.Rows.boot_repr rfl A.b_repr (pda_cons (pd_lst (pda_cons (pd_var (i := 5) rfl (vis_of rfl)) (pda_cons (pd_callKG0 W_rulers_of (hr.mono (by decide)) hgd rfl g_rulers_of F_rulers_of.kp (kb_of (n := 0) (ks := ["length", "many"]) (perm := [1, 0]) F_rulers_of fun _ _ _ _ _ _ us ws h1 h2 => match us, ws, h1, h2 with | [], [_, _], _, _ => rfl) hx_cx (pdk_cons (pd_ag (i := 3) rfl (vis_of rfl)) (pdk_cons (pd_ag (i := 1) rfl (vis_of rfl)) pdk_nil))) pda_nil))) pda_nil)) (pd_bu (cr_repr hgd (ru66 hr)) PyProof.Rows.boot_repr rfl A.b_repr (pda_cons (pd_lst (pda_cons (pd_var (i := 4) rfl (vis_of rfl)) (pda_cons (pd_var (i := 4) rfl (vis_of rfl)) pda_nil))) pda_nil))) (pdss_one (pds_ret pd_bl)) pdss_nil) (pdss_cons (pds_for hp_cx rfl (pdi_items (b := false) (pd_add (pd_slice (pd_rd (i := 5) rfl (vis_of rfl)) pdp_none (pdp_some pd_int)) (pd_slice (pd_rd (i := 5) rfl (vis_of rfl)) (pdp_some (pd_neg pd_int)) pdp_none))) (pdg_name (i := 6) nd rfl (loc_of rfl)) (pdss_cons (pds_set (i := 7) nd rfl (loc_of rfl) (pd_buT cr_tuple PyProof.Rows.boot_tuple rfl A.b_tuple (pda_cons (pd_lc (own := [("_law_mark", 8)]) (vsg := [8]) rfl nd (pdi_items (b := true) (pd_rev (pd_rd (i := 6) rfl (vis_of rfl)))) (blkOk_by rfl) (fun _ _ _ _ _ => (pdg_name (i := 8) nd rfl (loc_of rfl))) (fun _ _ _ _ _ => pdts_nil) (fun _ _ _ _ _ => (pd_sub (pd_rd (i := 3) rfl (vis_of rfl)) (pd_rd (i := 8) rfl (vis_of rfl))))) pda_nil))) (pdss_cons (pds_if (pdt_w (pdt_or (pdt_notInA (ru65 hr) (pd_rd (i := 7) rfl (vis_of rfl)) (pd_rd (i := 5) rfl (vis_of rfl))) (pdt_or (pdt_w (pdt_and (pdt_gt (pd_rd (i := 1) rfl (vis_of rfl)) pd_int) (pdt_and1 (pdt_eq (ru64 hr) (pd_rd (i := 7) rfl (vis_of rfl)) (pd_rd (i := 6) rfl (vis_of rfl)))))) (pdt_or (pdt_not (pdt_tru (pd_callG W_is_ruler (hr.mono (by decide)) hgd rfl g_is_ruler F_is_ruler.kp b_is_ruler hx_cx (pda_cons (pd_ag (i := 6) rfl (vis_of rfl)) pda_nil)))) (pdt_or1 (pdt_ne (ru64 hr) (pd_bu (cr_sum rfl) PyProof.Rows.boot_sum rfl A.b_sum (pda_cons (pd_callG W_gaps_of (hr.mono (by decide)) hgd rfl g_gaps_of F_gaps_of.kp b_gaps_of hx_cx (pda_cons (pd_ag (i := 6) rfl (vis_of rfl)) pda_nil)) pda_nil)) (pd_rd (i := 3) rfl (vis_of rfl)))))))) (pdss_one (pds_ret pd_bl)) pdss_nil) pdss_nil))) (pdss_frz 2 (pdss_cons (pds_asg (pd_callG W__law_shortest (hr.mono (by decide)) hgd rfl g__law_shortest F__law_shortest.kp b__law_shortest hx_cx (pda_cons (pd_ag (i := 2) rfl (vis_of rfl)) pda_nil)) (pdg_tup (n := 2) rfl (pdgs_cons (pdg_name (i := 9) nd rfl (loc_of rfl)) (pdgs_cons (pdg_name (i := 10) nd rfl (loc_of rfl)) pdgs_nil)))) (pdss_frz 2 (pdss_cons (pds_if (pdt_ne (ru64 hr) (pd_bu (cr_repr hgd (ru66 hr)) PyProof.Rows.boot_repr rfl A.b_repr (pda_cons (pd_lst (pda_cons (pd_callG W_shortest_length (hr.mono (by decide)) hgd rfl g_shortest_length F_shortest_length.kp b_shortest_length hx_cx (pda_cons (pd_ag (i := 2) rfl (vis_of rfl)) pda_nil)) (pda_cons (pd_callKG0 W_shortest_length (hr.mono (by decide)) hgd rfl g_shortest_length F_shortest_length.kp (kb_of (n := 0) (ks := ["many"]) (perm := [0]) F_shortest_length fun _ _ _ _ _ _ us ws h1 h2 => match us, ws, h1, h2 with | [], [_], _, _ => rfl) hx_cx (pdk_cons (pd_ag (i := 2) rfl (vis_of rfl)) pdk_nil)) pda_nil))) pda_nil)) (pd_bu (cr_repr hgd (ru66 hr)) PyProof.Rows.boot_repr rfl A.b_repr (pda_cons (pd_lst (pda_cons (pd_var (i := 9) rfl (vis_of rfl)) (pda_cons (pd_var (i := 9) rfl (vis_of rfl)) pda_nil))) pda_nil))) (pdss_one (pds_ret pd_bl)) pdss_nil) (pdss_cons (pds_set (i := 11) nd rfl (loc_of rfl) (pd_buT cr_tuple PyProof.Rows.boot_tuple rfl A.b_tuple (pda_cons (pd_rd (i := 10) rfl (vis_of rfl)) pda_nil))) (pdss_frz 2 (pdss_frz 11 (pdss_cons (pds_if (pdt_ne (ru64 hr) (pd_bu (cr_repr hgd (ru66 hr)) PyProof.Rows.boot_repr rfl A.b_repr (pda_cons (pd_lst (pda_cons (pd_callG W_shortest_rulers (hr.mono (by decide)) hgd rfl g_shortest_rulers F_shortest_rulers.kp b_shortest_rulers hx_cx (pda_cons (pd_ag (i := 2) rfl (vis_of rfl)) pda_nil)) (pda_cons (pd_callKG0 W_shortest_rulers (hr.mono (by decide)) hgd rfl g_shortest_rulers F_shortest_rulers.kp (kb_of (n := 0) (ks := ["many"]) (perm := [0]) F_shortest_rulers fun _ _ _ _ _ _ us ws h1 h2 => match us, ws, h1, h2 with | [], [_], _, _ => rfl) hx_cx (pdk_cons (pd_ag (i := 2) rfl (vis_of rfl)) pdk_nil)) pda_nil))) pda_nil)) (pd_bu (cr_repr hgd (ru66 hr)) PyProof.Rows.boot_repr rfl A.b_repr (pda_cons (pd_lst (pda_cons (pd_var (i := 11) rfl (vis_of rfl)) (pda_cons (pd_var (i := 11) rfl (vis_of rfl)) pda_nil))) pda_nil))) (pdss_one (pds_ret pd_bl)) pdss_nil) (pdss_frz 2 (pdss_frz 11 (pdss_one (pds_ret (pd_eq (ru64 hr) (pd_bu (cr_repr hgd (ru66 hr)) PyProof.Rows.boot_repr rfl A.b_repr (pda_cons (pd_lst (pda_cons (pd_callG W_rulers_of (hr.mono (by decide)) hgd rfl g_rulers_of F_rulers_of.kp b_rulers_of hx_cx (pda_cons (pd_ag (i := 2) rfl (vis_of rfl)) (pda_cons (pd_ag (i := 9) rfl (vis_of rfl)) pda_nil))) (pda_cons (pd_callG W_rulers_of (hr.mono (by decide)) hgd rfl g_rulers_of F_rulers_of.kp b_rulers_of hx_cx (pda_cons (pd_ag (i := 2) rfl (vis_of rfl)) (pda_cons (pd_bu (cr_max rfl) PyProof.Rows.boot_max rfl A.b_max (pda_cons pd_int (pda_cons (pd_sub (pd_rd (i := 9) rfl (vis_of rfl)) pd_int) pda_nil))) pda_nil))) pda_nil))) pda_nil)) (pd_bu (cr_repr hgd (ru66 hr)) PyProof.Rows.boot_repr rfl A.b_repr (pda_cons (pd_lst (pda_cons (pd_var (i := 11) rfl (vis_of rfl)) (pda_cons (pd_if (pdt_gt (pd_rd (i := 9) rfl (vis_of rfl)) pd_int) (pd_tup pda_nil) (pd_var (i := 11) rfl (vis_of rfl))) pda_nil))) pda_nil)))))))))))))))))))))))))))))))
theorem nd_law : (["_law_script", "_law_turn"] : List Str).Nodup := by decide +kernel
theorem w_law (A : Fa K mg) {f : Addr} {fd : FuncData} (F : FunD K "law" "law" (defArgs s_law) (defBody s_law) (defScope s_law) [] [] f fd) : FnG P w K mg base 8 f fd ["_law_script"] (spD0 K mg 1 m_law) := by
  obtain ⟨f__law_right, fd__law_right, F__law_right, g__law_right, b__law_right, W__law_right⟩ := w__law_right (P := P) (w := w) (base := base) A
  obtain ⟨f__law_spring, fd__law_spring, F__law_spring, g__law_spring, b__law_spring, W__law_spring⟩ := w__law_spring (P := P) (w := w) (base := base) A
  refine fnG_mir0 (N := ["_law_script", "_law_turn"]) (k := 7) (t := t_law) F ⟨rfl, rfl, rfl, by decide +kernel, rfl, by decide +kernel, by decide +kernel⟩ rfl fun cdv A0 outer s H E hr hgd => ?_
  have nd := nd_law
  exact (pdss_one (pds_ret (pd_bu (cr_all rfl) PyProof.Rows.boot_all rfl A.b_all (pda_cons (pd_lc (own := [("_law_turn", 1)]) (vsg := [1]) rfl nd (pdi_range1 (b := true) (pda_cons (pd_bu (cr_max rfl) PyProof.Rows.boot_max rfl A.b_max (pda_cons pd_int (pda_cons (pd_bu (cr_min rfl) PyProof.Rows.boot_min rfl A.b_min (pda_cons (pd_bu cr_len boot_len rfl A.b_len (pda_cons (pd_rd (i := 0) rfl (vis_of rfl)) pda_nil)) (pda_cons pd_int pda_nil))) pda_nil))) pda_nil) rfl A.b_range) (blkOk_by rfl) (fun _ _ _ _ _ => (pdg_name (i := 1) nd rfl (loc_of rfl))) (fun _ _ _ _ _ => pdts_nil) (fun _ _ _ _ _ => (pd_callSpr W__law_right (hr.mono (by decide)) hgd rfl g__law_right F__law_right.kp b__law_right passL (pd_callG W__law_spring (hr.mono (by decide)) hgd rfl g__law_spring F__law_spring.kp b__law_spring passL (pda_cons (pd_ag (i := 0) rfl (vis_of rfl)) (pda_cons (pd_ag (i := 1) rfl (vis_of rfl)) pda_nil)))))) pda_nil))))
end
end Dn
namespace Dn
open PySem PySem.Spec PyProof.Rows L2
abbrev IL (ns : List Int) : List D := ns.map PyData.int
abbrev TL (ns : List Int) : D := .tuple (IL ns)
def lensI (ms : List Int) : List Int := ms.zipIdx.flatMap fun p => (ms.take p.2).map fun one => p.1 - one
theorem lens_le (ms : List Int) : (lensI ms).length ≤ ms.length * ms.length := by
  unfold lensI
  rw [List.length_flatMap]
  have : ∀ l : List (Int × Nat), (l.map fun p => ((ms.take p.2).map fun one => p.1 - one).length).sum ≤ l.length * ms.length := by
    intro l
    induction l with
    | nil => simp
    | cons p l ih =>
      rw [List.map_cons, List.sum_cons, List.length_cons, Nat.add_mul]
      have : ((ms.take p.2).map fun one => p.1 - one).length ≤ ms.length := by
        rw [List.length_map, List.length_take]; omega
      omega
  have := this ms.zipIdx
  rwa [List.length_zipIdx] at this
theorem q_ruler_lengths (ms : List Int) (sp : SpO) (h : ms.length ≤ 60) : m_ruler_lengths [.dat (TL ms)] sp = .ok (.ol (IL (lensI ms))) sp := by
  have hs : sizeLine = 16777216 := sizeLine_eq
  have hb := lens_le ms
  have hm : ms.length * ms.length ≤ 60 * 60 := Nat.mul_le_mul h h
  have key : lcGo2 (gdTup 2 (gdCons (gdName 1) (gdCons (gdName 2) gdNil))) dYes (dItems (dSl (dRd 0) dP0 (dP1 (dRd 1)))) (gdName 3) dYes (dB gSub (dRd 2) (dRd 3)) [3] [.dat (TL ms), .un, .un, .un] (enumD (IL ms)) [] sp = .ok (IL (lensI ms)) sp := by
    rw [show IL ms = ms.map PyData.int from rfl, enum_map, lcGo2_of _ (fun p => IL ((ms.take p.2).map fun one => p.1 - one))]
    · simp only [List.nil_append, lensI, IL, List.map_flatMap]
    · intro p hp acc hl
      have hz := List.mk_mem_zipIdx_iff_getElem?.mp hp
      refine ⟨[.dat (TL ms), .dat (.int (p.2 : Nat)), .dat (.int p.1), .un], IL (ms.take p.2), rfl, rfl, ?_, ?_⟩
      · simp [dItems, dSl, dRd, dP0, dP1, gSl, cut_take, seqD, optL]
      · rw [show IL (ms.take p.2) = (ms.take p.2).map PyData.int from rfl, lcGo_all _ (fun one => .int (p.1 - one))]
        · simp only [IL, List.map_map]; rfl
        · intro a ha acc hacc
          simp [lcOne, gdName, dYes, dB, dRd, gSub, wipeD, hacc]
        · simp [IL] at hl ⊢
          omega
    · have e : (ms.zipIdx.flatMap fun p => IL ((ms.take p.2).map fun one => p.1 - one)).length = (lensI ms).length := by
        unfold lensI
        rw [List.length_flatMap, List.length_flatMap]
        simp [IL]
      rw [e, List.length_nil]
      omega
  unfold m_ruler_lengths mirOf t_ruler_lengths dRet dLc2
  simp [dEnum, dRd, itemsD, optL, wipeD]
  rw [key]
  rfl
end Dn
namespace Dn
open PySem PySem.Spec PyProof.Rows L2
/-! ### small facts -/
theorem canLay_IL : ∀ ns : List Int, PyData.canLayAll0 (IL ns) = true
  | [] => by simp [IL, PyData.canLayAll0]
  | n :: ns => by
    have := canLay_IL ns
    simp only [IL, List.map_cons, PyData.canLayAll0, PyData.canLay0, Bool.true_and]
    exact this
theorem depth_IL : ∀ ns : List Int, PyData.depthAll (IL ns) = 0
  | [] => by simp [IL, PyData.depthAll]
  | n :: ns => by
    have := depth_IL ns
    simp only [IL, List.map_cons, PyData.depthAll, PyData.depth]
    rw [show PyData.depthAll (List.map PyData.int ns) = 0 from this]
    rfl
theorem sh_TL (ns : List Int) : SeqAt.shaped (TL ns) = true := by
  unfold SeqAt.shaped
  simp only [PyData.canLay0, PyData.depth, canLay_IL, depth_IL]
  decide
theorem sh_int (i : Int) : SeqAt.shaped (.int i) = true := by
  unfold SeqAt.shaped
  simp [PyData.canLay0, PyData.depth]
theorem any_IL (ns : List Int) (p : Int) : (IL ns).any (fun z => PyData.eqv z (.int p)) = ns.any (· == p) := by
  rw [List.any_map]
  rfl
theorem in_TL (ns : List Int) (p : Int) : gInS false (.dat (.int p)) (.dat (TL ns)) = some (.dat (.bool (ns.any (· == p)))) := by
  show un2 gIn (.dat (.int p)) (.dat (TL ns)) = _
  rw [un2_dd]
  unfold gIn
  simp only [sh_TL, sh_int, Bool.and_self, if_true]
  rw [any_IL]
/-! no two alike -/
def freshF : List Int → List Int → Bool
  | _, [] => true
  | acc, x :: xs => !(acc.any (· == x)) && freshF (acc ++ [x]) xs
theorem dedup_len : ∀ (ns acc : List Int), (ns.foldl step_dedup acc).length ≤ acc.length + ns.length ∧ ((ns.foldl step_dedup acc).length = acc.length + ns.length ↔ freshF acc ns = true)
  | [], acc => by simp [freshF]
  | x :: xs, acc => by
    rw [List.foldl_cons, List.length_cons, freshF]
    unfold step_dedup
    cases q : acc.any (· == x) with
    | true =>
      rw [if_pos rfl]
      obtain ⟨h1, h2⟩ := dedup_len xs acc
      unfold step_dedup at h1
      refine ⟨by omega, ?_⟩
      constructor
      · intro h; omega
      · intro h; simp at h
    | false =>
      rw [if_neg Bool.false_ne_true]
      obtain ⟨h1, h2⟩ := dedup_len xs (acc ++ [x])
      unfold step_dedup at h1 h2
      rw [List.length_append, List.length_singleton] at h1 h2
      refine ⟨by omega, ?_⟩
      rw [show acc.length + (xs.length + 1) = acc.length + 1 + xs.length by omega, h2]
      simp
theorem uniq_fold (ns : List Int) : uniq ns = ns.foldl step_dedup [] := by
  unfold uniq firstMet
  congr 1
  apply List.ext_getElem?
  intro i
  rw [List.getElem?_map]
  by_cases h : i < ns.length
  · rw [List.getElem?_range h]; simp [h]
  · rw [List.getElem?_eq_none (by simpa using h), List.getElem?_eq_none (by simpa using h)]; rfl
theorem uniq_len (ns : List Int) : decide (((uniq ns).length : Int) = (ns.length : Int)) = freshF [] ns := by
  have h := (dedup_len ns []).2
  rw [← uniq_fold, List.length_nil, Nat.zero_add] at h
  cases q : freshF [] ns with
  | true => rw [decide_eq_true_iff]; exact_mod_cast h.mpr q
  | false =>
    rw [decide_eq_false_iff_not]
    intro e
    have := h.mp (by exact_mod_cast e)
    rw [q] at this; cases this
theorem uniq_le (ns : List Int) : (uniq ns).length ≤ ns.length := by
  have h := (dedup_len ns []).1
  rw [← uniq_fold, List.length_nil, Nat.zero_add] at h
  exact h
theorem mem_uniq (ns : List Int) (e : Int) : decide (e ∈ uniq ns) = ns.any (· == e) := by
  have h := uniq_any ns e
  have h2 : (uniq ns).any (· == e) = true ↔ e ∈ uniq ns := by
    rw [List.any_eq_true]
    constructor
    · rintro ⟨x, h1, h2⟩; rw [← eq_of_beq h2]; exact h1
    · intro h; exact ⟨e, h, by simp⟩
  have h3 : ns.any (· == e) = true ↔ e ∈ ns := by
    rw [List.any_eq_true]
    constructor
    · rintro ⟨x, h1, h2⟩; rw [← eq_of_beq h2]; exact h1
    · intro h; exact ⟨e, h, by simp⟩
  rw [Bool.eq_iff_iff, decide_eq_true_iff, ← h2, h, h3]
theorem eq_int (i j : Int) : gEq (.int i) (.int j) = some (.dat (.bool (decide (i = j)))) := by
  unfold gEq strs?
  simp only [sh_int, Bool.and_self, if_true]
  rw [show PyData.eqv (.int i) (.int j) = decide (i = j) by simp only [PyData.eqv]; rfl]
theorem gSet_ol (ns : List Int) (h : ns.length + 1 < 4096) : gSet [.ol (IL ns)] = some (.os (uniq ns)) := by
  unfold gSet
  simp only [lstD_ol, Option.bind_some, ints?_map]
  rw [if_pos (by unfold scanBound; exact h)]
theorem gLen_os (ns : List Int) (h : ns.length ≤ 1048576) : gLen [.os ns] = some (.dat (.int ns.length)) := by
  exact if_pos h
theorem gLen_ol (ns : List D) : gLen [.ol ns] = some (.dat (.int ns.length)) := rfl
theorem gLen_tup (ns : List D) : gLen [.dat (.tuple ns)] = some (.dat (.int ns.length)) := rfl
theorem gLen_lst (ns : List D) : gLen [.dat (.list ns)] = some (.dat (.int ns.length)) := rfl
/-! ### is_place_let -/
def absI (x : Int) : Int := if x < 0 then -x else x
def freshI (r : List Int) (p : Int) : List Int := r.map fun m => absI (p - m)
def letB (r : List Int) (p : Int) : Bool := if r.any (· == p) then false else freshF [] (freshI r p) && !((freshI r p).any fun e => (lensI r).any (· == e))
theorem q_is_place_let (r : List Int) (p : Int) (sp : SpO) (h : r.length ≤ 60) : m_is_place_let [.dat (TL r), .dat (.int p)] sp = .ok (.dat (.bool (letB r p))) sp := by
  have hs : sizeLine = 16777216 := sizeLine_eq
  have hsb : scanBound = 4096 := rfl
  have hb := lens_le r
  have hm : r.length * r.length ≤ 60 * 60 := Nat.mul_le_mul h h
  have k1 : lcGo (gdName 3) dYes (dBu gAbs (dCons (dB gSub (dRd 1) (dRd 3)) dNil)) [.dat (TL r), .dat (.int p), .un, .un, .un, .un] (IL r) [] sp = .ok (IL (freshI r p)) sp := by
    rw [lcGo_all _ (fun m => .int (absI (p - m)))]
    · simp [IL, freshI]
    · intro a ha acc hacc
      simp [lcOne, gdName, dYes, dBu, dB, dCons, dNil, dRd, gSub, gAbs, absI, hacc]
    · rw [List.length_nil]; omega
  have k2 : lcGo (gdName 5) dYes (dB2 (gInS false) (dRd 5) (dRd 4)) [.dat (TL r), .dat (.int p), .ol (IL (freshI r p)), .un, .os (uniq (lensI r)), .un] (IL (freshI r p)) [] sp = .ok (((freshI r p).map fun e => (lensI r).any (· == e)).map PyData.bool) sp := by
    rw [lcGo_all _ (fun e => .bool ((lensI r).any (· == e)))]
    · simp
    · intro a ha acc hacc
      simp [lcOne, gdName, dYes, dB2, dRd, gInS, inOs, mem_uniq, hacc]
    · rw [List.length_nil]; simp [freshI]; omega
  have hf : (freshI r p).length = r.length := by simp [freshI]
  have hu := uniq_le (freshI r p)
  have hu2 := uniq_le (lensI r)
  unfold m_is_place_let mirOf t_is_place_let letB
  simp only [dSeq, dIfS, dTb, dB2, dRd, List.replicate, List.cons_append, List.nil_append, List.getElem?_cons_zero, List.getElem?_cons_succ, Out.bind_ok, in_TL, opt_some, isB, optB_some]
  cases q : r.any (· == p) with
  | true => simp [dRet, dC]
  | false =>
    simp only [Bool.false_eq_true, if_false, dNext, Out.bind_ok, dSet, dLc, dItems, dRd, List.getElem?_cons_zero, seqD, optL, wipeD, List.set]
    rw [k1]
    simp only [Out.bind_ok, List.set, dBu, dCons, dNil, dCall, dAg, List.getElem?_cons_zero, toAr, Sl.d?, Option.bind_some, List.length_cons, List.length_nil, if_true, q_ruler_lengths r sp h]
    have c1 : (lensI r).length + 1 < 4096 := by omega
    have c2 : (freshI r p).length + 1 < 4096 := by omega
    have c3 : (uniq (freshI r p)).length ≤ 1048576 := by omega
    simp [gSet_ol, hsb, c1, c2, c3, dRet, dAnd, dB, dBu, dCons, dNil, dRd, gLen_os, gLen_ol, un2, eq_int, isB, uniq_len, dNot, dLc, dItems, seqD, optL, wipeD, -List.map_map]
    cases q2 : freshF [] (freshI r p) with
    | false => simp
    | true =>
      simp [k2, gAny, -List.map_map]
end Dn
namespace Dn
open PySem PySem.Spec PyProof.Rows L2
/-! ### rulers_within -/
def rngI (lo : Int) (n : Nat) : List Int := (List.range n).map fun i : Nat => lo + (i : Int)
theorem rngD_eq (lo : Int) (n : Nat) : rngD lo n = (rngI lo n).map PyData.int := by
  unfold rngD rngI
  rw [List.map_map]; rfl
theorem at_last (q : List Int) (a w : Int) : atI (IL (q ++ [a, w])) (-1) = some (.int w) := by
  unfold atI ixN
  have h1 : ¬ (0 : Int) ≤ -1 := by omega
  rw [if_neg h1, if_pos (by simp; omega)]
  simp only [Option.bind_some]
  have e : ((-1 : Int) + ((IL (q ++ [a, w])).length : Nat)).toNat = q.length + 1 := by simp; omega
  rw [e]
  simp [IL]
theorem at_prev (q : List Int) (a w : Int) : atI (IL (q ++ [a, w])) (-2) = some (.int a) := by
  unfold atI ixN
  have h1 : ¬ (0 : Int) ≤ -2 := by omega
  rw [if_neg h1, if_pos (by simp; omega)]
  simp only [Option.bind_some]
  have e : ((-2 : Int) + ((IL (q ++ [a, w])).length : Nat)).toNat = q.length := by simp; omega
  rw [e]
  simp [IL]
theorem cut_but (q : List Int) (a w : Int) : cutD (IL (q ++ [a, w])) none (some (-1)) = IL (q ++ [a]) := by
  unfold cutD
  have e : HT.sIx (IL (q ++ [a, w])).length (IL (q ++ [a, w])).length (some (-1)) = q.length + 1 := by
    simp [HT.sIx]; omega
  rw [e, HT.sIx_none, List.drop_zero, Nat.sub_zero, show IL (q ++ [a, w]) = IL (q ++ [a]) ++ [PyData.int w] by simp [IL]]
  exact List.take_left' (by simp)
abbrev Row := List Int × Int
def full (w : Int) (x : Row) : List Int := x.1 ++ [x.2, w]
def stepW (w : Int) (x : Row) : List Row := ((rngI (x.2 + 1) (w - (x.2 + 1)).toNat).filter fun p => letB (full w x) p).map fun p => (x.1 ++ [x.2], p)
/-- what is known of a row -/
structure Okr (w : Int) (n : Nat) (x : Row) : Prop where
  len : x.1.length ≤ n
  lo : 0 ≤ x.2
  hi : x.2 ≤ w
theorem q_within (w : Int) (x : Row) (sp : SpO) (hw : w ≤ 100) (h : Okr w 50 x) : m_rulers_within [.dat (TL (full w x))] sp = .ok (.ol ((stepW w x).map fun y => TL (full w y))) sp := by
  obtain ⟨q, a⟩ := x
  obtain ⟨h1, h2, h3⟩ := h
  dsimp only at h1 h2 h3
  have hs : sizeLine = 16777216 := sizeLine_eq
  have hl : (full w (q, a)).length ≤ 60 := by simp [full]; omega
  have k1 : lcGo (gdName 2) (dTru (dCall m_is_place_let 2 (dCons (dAg 0) (dCons (dAg 2) dNil)))) (dB gAdd (dSl (dRd 0) dP0 (dP1 (dNeg (dC (PyData.int 1))))) (dTup (dCons (dVar 2) (dCons (dB gIx (dRd 0) (dNeg (dC (PyData.int 1)))) dNil))))
      [.dat (TL (full w (q, a))), .rg (a + 1) w, .un] ((rngI (a + 1) (w - (a + 1)).toNat).map PyData.int) [] sp = .ok ((stepW w (q, a)).map fun y => TL (full w y)) sp := by
    rw [lcGo_of _ (fun p => letB (full w (q, a)) p) (fun p => TL (q ++ [a, p, w]))]
    · simp [stepW, full]
    · intro p hp acc hacc
      have e1 := q_is_place_let (full w (q, a)) p sp hl
      simp only [lcOne, gdName, List.set, dTru, dCall, dCons, dNil, dAg, List.getElem?_cons_zero, List.getElem?_cons_succ, Out.bind_ok, toAr, Sl.d?, Option.bind_some, List.length_cons, List.length_nil, if_true, e1, tru, optB_some, noX_ok]
      cases letB (full w (q, a)) p with
      | false => simp
      | true =>
        simp [dB, dSl, dRd, dP0, dP1, dNeg, dC, gSl, dTup, dCons, dNil, dVar, gIx, full, cut_but, at_last, toDs, gAdd, hs, hacc, un2, -List.map_append]
        have c1 : q.length ≤ 16777213 := by omega
        rw [hs] at hacc
        simp [c1, hacc, hs]
    · simp [rngI]; omega
  have ro : rgOk (a + 1) w = true := by simp [rgOk]; omega
  unfold m_rulers_within mirOf t_rulers_within dRet
  simp [dSeq, dSet, dBu, dCons, dNil, dB, dRd, dNeg, dC, gIx, full, at_prev, at_last, gAdd, gRange, dLc, dItems, seqD, ro, optL, wipeD, rngD_eq, un2, -List.map_append]
  simp only [full] at k1
  rw [k1]
  rfl
end Dn
namespace Dn
open PySem PySem.Spec PyProof.Rows L2
/-! ### rulers_of_length -/
def itS (w : Int) : Nat → List Row → List Row
  | 0, r => r
  | n + 1, r => itS w n (r.flatMap (stepW w))
theorem mem_step {w : Int} {n : Nat} {x y : Row} (h : Okr w n x) (hy : y ∈ stepW w x) : Okr w (n + 1) y := by
  unfold stepW at hy
  obtain ⟨p, hp, rfl⟩ := List.mem_map.mp hy
  have hp := (List.mem_filter.mp hp).1
  unfold rngI at hp
  obtain ⟨i, hi, rfl⟩ := List.mem_map.mp hp
  have hi := List.mem_range.mp hi
  obtain ⟨h1, h2, h3⟩ := h
  refine ⟨?_, ?_, ?_⟩ <;> dsimp only
  · rw [List.length_append, List.length_singleton]; omega
  · omega
  · omega
theorem len_step {w : Int} {n : Nat} {x : Row} (h : Okr w n x) (hw : w ≤ 18) : (stepW w x).length ≤ 18 := by
  unfold stepW rngI
  rw [List.length_map]
  refine Nat.le_trans (List.length_filter_le _ _) ?_
  rw [List.length_map, List.length_range]
  have := h.lo
  omega
theorem len_steps {w : Int} {n : Nat} (hw : w ≤ 18) : ∀ {r : List Row}, (∀ x ∈ r, Okr w n x) → (r.flatMap (stepW w)).length ≤ r.length * 18
  | [], _ => by simp
  | x :: r, h => by
    rw [List.flatMap_cons, List.length_append, List.length_cons]
    have h1 := len_step (h x List.mem_cons_self) hw
    have h2 := len_steps hw (r := r) fun y hy => h y (List.mem_cons_of_mem _ hy)
    omega
abbrev RL (w : Int) (r : List Row) : List D := r.map fun x => TL (full w x)
theorem q_turn {w many : Int} {n : Nat} {r : List Row} (hw : w ≤ 18) (hn : n ≤ 50) (h : ∀ x ∈ r, Okr w n x) (hl : r.length * 18 ≤ 16777216) (z : Sl) (sp : SpO) :
    dLc2 (dItems (dRd 2)) (gdName 4) dYes (dItems (dCall m_rulers_within 1 (dCons (dAg 4) dNil))) (gdName 5) dYes (dVar 5) [4, 5] [5] [.dat (.int many), .dat (.int w), .ol (RL w r), z, .un, .un] sp = .ok (.ol (RL w (r.flatMap (stepW w)))) sp := by
  have hs : sizeLine = 16777216 := sizeLine_eq
  have hl2 := len_steps hw h
  have k1 : lcGo2 (gdName 4) dYes (dItems (dCall m_rulers_within 1 (dCons (dAg 4) dNil))) (gdName 5) dYes (dVar 5) [5] [.dat (.int many), .dat (.int w), .ol (RL w r), z, .un, .un] (RL w r) [] sp = .ok (RL w (r.flatMap (stepW w))) sp := by
    rw [lcGo2_of (l := r) (fun x => TL (full w x)) (fun x => RL w (stepW w x))]
    · simp [List.map_flatMap]
    · intro x hx acc hacc
      have ok := h x hx
      have e := q_within w x sp (by omega) ⟨Nat.le_trans ok.len hn, ok.lo, ok.hi⟩
      refine ⟨_, RL w (stepW w x), rfl, rfl, ?_, ?_⟩
      · simp [dItems, dCall, dCons, dNil, dAg, toAr, Sl.d?, e, seqD, optL, -List.map_append]
      · rw [lcGo_all (l := stepW w x) (fun y => TL (full w y)) (fun y => TL (full w y))]
        · intro y hy acc hacc
          simp [lcOne, gdName, dYes, dVar, wipeD, hacc]
        · simpa using hacc
    · have e : (r.flatMap fun x => RL w (stepW w x)).length = (r.flatMap (stepW w)).length := by
        simp [List.length_flatMap]
      rw [e, List.length_nil]
      omega
  unfold dLc2
  simp [dItems, dRd, seqD, optL, wipeD, -List.map_append]
  rw [k1]
  rfl
theorem q_turns {w many : Int} (hw : w ≤ 18) (sp : SpO) : ∀ (ys : List D) {n : Nat} {r : List Row} (z : Sl), n + ys.length ≤ 50 → (∀ x ∈ r, Okr w n x) → r.length * 18 ^ ys.length ≤ 16777216 → ∃ z', 
    forGo (gdName 3) (dSeq (dSet 2 (dLc2 (dItems (dRd 2)) (gdName 4) dYes (dItems (dCall m_rulers_within 1 (dCons (dAg 4) dNil))) (gdName 5) dYes (dVar 5) [4, 5] [5])) dNext) ys [.dat (.int many), .dat (.int w), .ol (RL w r), z, .un, .un] sp =
      .ok (.nx [.dat (.int many), .dat (.int w), .ol (RL w (itS w ys.length r)), z', .un, .un]) sp
  | [], n, r, z, _, _, _ => ⟨z, rfl⟩
  | y :: ys, n, r, z, hn, h, hl => by
    rw [List.length_cons] at hn hl
    rw [Nat.pow_succ, Nat.mul_comm (18 ^ _) 18, ← Nat.mul_assoc] at hl
    have p1 : 1 ≤ 18 ^ ys.length := Nat.pos_of_ne_zero (by simp)
    have hl1 : r.length * 18 ≤ 16777216 := Nat.le_trans (Nat.le_mul_of_pos_right _ p1) hl
    have e := q_turn (many := many) hw (by omega) h hl1 (.dat y) sp
    obtain ⟨z', e2⟩ := q_turns (many := many) hw sp ys (n := n + 1) (r := r.flatMap (stepW w)) (.dat y) (by omega) (fun x hx => by
      obtain ⟨x0, h0, h1⟩ := List.mem_flatMap.mp hx
      exact mem_step (h x0 h0) h1) (Nat.le_trans (Nat.mul_le_mul_right _ (len_steps hw h)) hl)
    refine ⟨z', ?_⟩
    rw [forGo]
    simp only [gdName, List.set]
    simp only [dSeq, dSet, e, Out.bind_ok, List.set, dNext]
    exact e2
/-- what the program finds -/
def rulP (many : Nat) (w : Int) : List (List Int) := if many = 1 ∨ w = 0 then (if many = 1 ∧ w = 0 then [[0]] else []) else (itS w (many - 2) [([], 0)]).map (full w)
theorem q_rulers_of_length (many : Nat) (w : Int) (sp : SpO) (h0 : 1 ≤ many) (h1 : many ≤ 6) (h2 : 0 ≤ w) (h3 : w ≤ 18) : m_rulers_of_length [.dat (.int many), .dat (.int w)] sp = .ok (.dat (.tuple ((rulP many w).map TL))) sp := by
  have hs : sizeLine = 16777216 := sizeLine_eq
  unfold m_rulers_of_length mirOf t_rulers_of_length rulP
  by_cases c1 : many = 1
  · subst c1
    by_cases c2 : w = 0
    · subst c2
      simp [dSeq, dIfS, dOrT, dTb, dB, dRd, dC, eq_int, isB, dRet, dIf, dAndT, dTup, dCons, dNil, toDs, Sl.d?, hs, un2]
    · simp [dSeq, dIfS, dOrT, dTb, dB, dRd, dC, eq_int, isB, dRet, dIf, dAndT, dTup, dCons, dNil, toDs, Sl.d?, hs, un2, c2]
  · have c1' : ¬ ((many : Int) = 1) := by omega
    by_cases c2 : w = 0
    · subst c2
      simp [dSeq, dIfS, dOrT, dTb, dB, dRd, dC, eq_int, isB, dRet, dIf, dAndT, dTup, dCons, dNil, toDs, Sl.d?, hs, un2, c1, c1']
    · have ro : rgOk 0 ((many : Int) - 2) = true := by simp [rgOk]; omega
      have e1 : ((many : Int) - 2).toNat = many - 2 := by omega
      obtain ⟨z', e2⟩ := q_turns (w := w) (many := many) h3 sp (rngD 0 (many - 2)) (n := 0) (r := [([], 0)]) .un (by simp [rngD]; omega) (fun x hx => by
        rw [List.mem_singleton] at hx
        subst hx
        exact ⟨Nat.le_refl _, Int.le_refl _, h2⟩) (by
          simp [rngD]
          have : many - 2 ≤ 4 := by omega
          calc 18 ^ (many - 2) ≤ 18 ^ 4 := Nat.pow_le_pow_right (by omega) this
            _ ≤ 16777216 := by decide)
      have e3 : RL w [([], 0)] = [.tuple [.int 0, .int w]] := by simp [full]
      rw [e3] at e2
      have e4 : (rngD 0 (many - 2)).length = many - 2 := by simp [rngD]
      rw [e4] at e2
      simp [dSeq, dIfS, dOrT, dTb, dB, dRd, dC, eq_int, isB, dRet, dIf, dAndT, dTup, dCons, dNil, toDs, Sl.d?, hs, un2, c1, c1', c2, dNext, dSet, dLst, dVar, dFor, dRange1, gSub, rgS1, ro, e1, optL]
      rw [e2]
      rfl
end Dn
namespace Dn
open PySem PySem.Spec PyProof.Rows L2
/-! ### the law's own search -/
abbrev LL (ns : List Int) : D := .list (IL ns)
theorem at_nat (ns : List Int) (k : Nat) (x : Int) (h : ns[k]? = some x) : atI (IL ns) (k : Int) = some (.int x) := by
  have hk := (List.getElem?_eq_some_iff.mp h).1
  unfold atI ixN
  rw [if_pos (by omega), if_pos (by simpa using hk)]
  simp [IL, h]
def lensTo (ms : List Int) (k : Nat) : List Int := (ms.zipIdx.take k).flatMap fun p => (ms.take p.2).map fun one => p.1 - one
theorem lensTo_succ (ms : List Int) (k : Nat) (x : Int) (h : ms[k]? = some x) : lensTo ms (k + 1) = lensTo ms k ++ (ms.take k).map fun one => x - one := by
  unfold lensTo
  have hz : ms.zipIdx[k]? = some (x, k) := by rw [List.getElem?_zipIdx, h]; simp
  have hk := (List.getElem?_eq_some_iff.mp hz)
  rw [List.take_add_one, hz, List.flatMap_append]
  simp
theorem lensTo_le (ms : List Int) : ∀ k, (lensTo ms k).length ≤ k * ms.length
  | 0 => by simp [lensTo]
  | k + 1 => by
    have ih := lensTo_le ms k
    cases h : ms[k]? with
    | none =>
      have hk := List.getElem?_eq_none_iff.mp h
      have e : lensTo ms (k + 1) = lensTo ms k := by
        unfold lensTo
        rw [List.take_of_length_le (by rw [List.length_zipIdx]; omega), List.take_of_length_le (by rw [List.length_zipIdx]; omega)]
      rw [e, Nat.add_mul]
      omega
    | some x =>
      rw [lensTo_succ ms k x h, List.length_append, List.length_map, List.length_take, Nat.add_mul]
      omega
theorem q__law_lengths (ms : List Int) (sp : SpO) (h : ms.length ≤ 60) : m__law_lengths [.dat (LL ms)] sp = .ok (.ol (IL (lensI ms))) sp := by
  have hs : sizeLine = 16777216 := sizeLine_eq
  have ro : rgOk 0 (ms.length : Int) = true := by simp [rgOk]; omega
  obtain ⟨ρ2, h1, z, h2⟩ := forGo_up (g := gdName 2) (tb := dSeq (dSet 1 (dB gAdd (dRd 1) (dLc (dItems (dSl (dRd 0) dP0 (dP1 (dRd 2)))) (gdName 3) dYes (dB gSub (dB gIx (dRd 0) (dRd 2)) (dRd 3)) [3]))) dNext) (sp := sp) (ρ := [.dat (LL ms), .ol [], .un, .un]) 0 ms.length
    (fun k ρ => ∃ z, ρ = [.dat (LL ms), .ol (IL (lensTo ms k)), z, .un]) (fun k ρ hk ⟨z, hr⟩ => by
      subst hr
      obtain ⟨x, hx⟩ := get_lt hk
      have hb := lensTo_le ms (k + 1)
      have hb2 : (k + 1) * ms.length ≤ 60 * 60 := Nat.mul_le_mul (by omega) h
      have k1 : lcGo (gdName 3) dYes (dB gSub (dB gIx (dRd 0) (dRd 2)) (dRd 3)) [.dat (LL ms), .ol (IL (lensTo ms k)), .dat (.int ((0 : Int) + (k : Int))), .un] ((ms.take k).map PyData.int) [] sp = .ok (IL ((ms.take k).map fun one => x - one)) sp := by
        rw [lcGo_all _ (fun one => .int (x - one))]
        · simp only [IL, List.map_map]; rfl
        · intro a ha acc hacc
          simp [lcOne, gdName, dYes, dB, dRd, gIx, at_nat ms k x hx, gSub, hacc, un2, -List.map_append]
        · rw [List.length_nil, List.length_take]; omega
      refine ⟨_, [.dat (LL ms), .ol (IL (lensTo ms (k + 1))), .dat (.int ((0 : Int) + (k : Int))), .un], rfl, ?_, _, rfl⟩
      rw [lensTo_succ ms k x hx] at hb ⊢
      rw [List.length_append, List.length_map] at hb
      have e1 : cutD (IL ms) none (some ((0 : Int) + (k : Int))) = (ms.take k).map PyData.int := by
        rw [Int.zero_add, cut_take, IL, List.map_take]
      simp only [dSeq, dSet, dB, dRd, List.set, List.getElem?_cons_zero, List.getElem?_cons_succ, Out.bind_ok, dLc, dItems, dSl, dP0, dP1, gSl, Sl.d?, Option.bind_some, opt_some, e1, seqD, optL, wipeD, k1]
      have c1 : (IL (lensTo ms k)).length + (IL ((ms.take k).map fun one => x - one)).length ≤ sizeLine := by
        rw [hs, List.length_map, List.length_map, List.length_map]
        omega
      simp only [un2, gAdd, Sl.d?, Option.bind_some, if_pos c1, opt_some, Out.bind_ok, dNext]
      simp only [IL, List.map_append])
    ⟨_, rfl⟩
  have e : lensTo ms ms.length = lensI ms := by
    unfold lensTo lensI
    rw [List.take_of_length_le (by rw [List.length_zipIdx]; omega)]
  rw [e] at h2
  subst h2
  unfold m__law_lengths mirOf t__law_lengths
  simp [dSeq, dSet, dLst, dNil, toDs, dFor, dRange1, dCons, dBu, dRd, gLen, itemsD, rgS1, ro, optL, dRetV, -List.map_append, hs]
  rw [h1]
  rfl
theorem q__law_unlike (ns : List Int) (sp : SpO) (h : ns.length ≤ 4000) : m__law_unlike [.dat (LL ns)] sp = .ok (.dat (.bool (freshF [] ns))) sp := by
  have hu := uniq_le ns
  unfold m__law_unlike mirOf t__law_unlike
  have e1 : gSet [.dat (LL ns)] = some (.os (uniq ns)) := by
    unfold gSet
    simp only [lstD_dat, Option.bind_some, ints?_map]
    rw [if_pos (by unfold scanBound; omega)]
  simp [dRet, dB, dBu, dCons, dNil, dRd, e1, gLen_os _ (show (uniq ns).length ≤ 1048576 by omega), gLen_lst, un2, eq_int, uniq_len]
def sortI (ns : List Int) : List Int := isort (fun a b => decide (a ≤ b)) ns
theorem sort_ints (ns : List Int) : (IL ns).mergeSort (PySem.W.dataLe false id) = IL (sortI ns) := by
  have e : ∀ a b : Int, PySem.W.dataLe false id (PyData.int a) (.int b) = decide (a ≤ b) := fun a b => by
    have := congrFun (congrFun (PySem.W.dataLe_int (fun i : Int => i)) a) b
    exact this
  rw [← List.map_mergeSort (f := PyData.int) (r := fun a b => decide (a ≤ b)) (fun a _ b _ => (e a b).symm), isort_merge]
  · rfl
  · intro a b c h1 h2; simp at *; omega
  · intro a b; simp; omega
theorem sortI_len (ns : List Int) : (sortI ns).length = ns.length := by
  have h := congrArg List.length (sort_ints ns)
  simpa using h.symm
theorem alike_int (a b : Int) : PySem.W.alike (.int a) (.int b) = true := by simp [PySem.W.alike]
theorem sortable_IL (ns : List Int) : sortable (IL ns) = true := by
  unfold sortable
  rw [Bool.and_eq_true, Bool.and_eq_true]
  refine ⟨⟨?_, ?_⟩, ?_⟩
  · rw [List.all_eq_true]
    intro d hd
    rw [List.all_eq_true]
    intro e he
    obtain ⟨a, _, rfl⟩ := List.mem_map.mp hd
    obtain ⟨b, _, rfl⟩ := List.mem_map.mp he
    exact alike_int a b
  · rw [Bool.or_eq_true]
    right
    rw [List.all_eq_true]
    intro d hd
    obtain ⟨a, _, rfl⟩ := List.mem_map.mp hd
    rfl
  · rw [List.all_eq_true]
    intro d hd
    obtain ⟨a, _, rfl⟩ := List.mem_map.mp hd
    simp [PyData.depth, PyData.hasDict]
theorem gSorted_ol (ns : List Int) (h : ns.length ≤ 16777216) : gSorted [.ol (IL ns)] = some (.ol (IL (sortI ns))) := by
  unfold gSorted
  simp only [lstD_ol, Option.bind_some]
  rw [if_pos ⟨sortable_IL ns, by rw [sizeLine_eq]; simpa using h⟩, sort_ints]
theorem gSorted_dat (ns : List Int) (h : ns.length ≤ 16777216) : gSorted [.dat (LL ns)] = some (.ol (IL (sortI ns))) := by
  unfold gSorted
  simp only [lstD_dat, Option.bind_some]
  rw [if_pos ⟨sortable_IL ns, by rw [sizeLine_eq]; simpa using h⟩, sort_ints]
def letsB (ms : List Int) (p : Int) : Bool := freshF [] (lensI (sortI (ms ++ [p])))
theorem q__law_lets (ms : List Int) (p : Int) (sp : SpO) (h : ms.length ≤ 50) : m__law_lets [.dat (LL ms), .dat (.int p)] sp = .ok (.dat (.bool (letsB ms p))) sp := by
  have hs : sizeLine = 16777216 := sizeLine_eq
  have hl : (sortI (ms ++ [p])).length ≤ 60 := by rw [sortI_len]; simp; omega
  have hb := lens_le (sortI (ms ++ [p]))
  have hm : (sortI (ms ++ [p])).length * (sortI (ms ++ [p])).length ≤ 60 * 60 := Nat.mul_le_mul hl hl
  unfold m__law_lets mirOf t__law_lets letsB
  have e0 : IL ms ++ [PyData.int p] = IL (ms ++ [p]) := by simp [IL]
  have c1 : ms.length + 1 ≤ 16777216 := by omega
  simp [dRet, dCall, dCons, dNil, dBu, dB, dRd, dLst, dVar, toDs, Sl.d?, un2, gAdd, hs, c1, -List.map_append]
  rw [e0, gSorted_ol _ (by simp; omega)]
  simp [toAr, Sl.d?, q__law_lengths _ sp hl, q__law_unlike _ sp (show (lensI (sortI (ms ++ [p]))).length ≤ 4000 by omega), -List.map_append]
end Dn
namespace Dn
open PySem PySem.Spec PyProof.Rows L2
/-! ### _law_found -/
def lastI (r : List Int) : Int := r.getLastD 0
theorem at_end (r : List Int) (h : 0 < r.length) : atI (IL r) (-1) = some (.int (lastI r)) := by
  obtain ⟨q, z, rfl⟩ : ∃ q z, r = q ++ [z] := ⟨r.dropLast, r.getLast (by intro e; simp [e] at h), (List.dropLast_concat_getLast _).symm⟩
  unfold atI ixN lastI
  have h1 : ¬ (0 : Int) ≤ -1 := by omega
  rw [if_neg h1, if_pos (by simp; omega)]
  simp only [Option.bind_some]
  have e : ((-1 : Int) + ((IL (q ++ [z])).length : Nat)).toNat = q.length := by simp; omega
  rw [e]
  simp [IL]
def lowB (r : List Int) : Int := if (2 : Int) < r.length then lastI r + 1 else 1
def stepO (w : Int) (r : List Int) : List (List Int) := ((rngI (lowB r) (w - lowB r).toNat).filter fun p => letsB r p).map fun p => r ++ [p]
structure Okl (w : Int) (n : Nat) (r : List Int) : Prop where
  len : r.length ≤ n + 2
  two : 2 ≤ r.length
  lo : (2 : Int) < r.length → 0 ≤ lastI r ∧ lastI r ≤ w
theorem lowB_pos {w : Int} {n : Nat} {r : List Int} (h : Okl w n r) : 1 ≤ lowB r := by
  unfold lowB
  split
  · rename_i c; have := (h.lo c).1; omega
  · omega
theorem mem_stepO {w : Int} {n : Nat} {r y : List Int} (h : Okl w n r) (hy : y ∈ stepO w r) : Okl w (n + 1) y := by
  unfold stepO at hy
  obtain ⟨p, hp, rfl⟩ := List.mem_map.mp hy
  have hp := (List.mem_filter.mp hp).1
  unfold rngI at hp
  obtain ⟨i, hi, rfl⟩ := List.mem_map.mp hp
  have hi := List.mem_range.mp hi
  have hl := lowB_pos h
  have h1 := h.len
  have h2 := h.two
  refine ⟨by rw [List.length_append, List.length_singleton]; omega, by rw [List.length_append]; omega, fun _ => ?_⟩
  have e : lastI (r ++ [lowB r + (i : Int)]) = lowB r + i := by simp [lastI]
  rw [e]
  omega
theorem len_stepO {w : Int} {n : Nat} {r : List Int} (h : Okl w n r) (hw : w ≤ 18) : (stepO w r).length ≤ 18 := by
  unfold stepO rngI
  rw [List.length_map]
  refine Nat.le_trans (List.length_filter_le _ _) ?_
  rw [List.length_map, List.length_range]
  have := lowB_pos h
  omega
theorem len_stepsO {w : Int} {n : Nat} (hw : w ≤ 18) : ∀ {r : List (List Int)}, (∀ x ∈ r, Okl w n x) → (r.flatMap (stepO w)).length ≤ r.length * 18
  | [], _ => by simp
  | x :: r, h => by
    rw [List.flatMap_cons, List.length_append, List.length_cons]
    have h1 := len_stepO (h x List.mem_cons_self) hw
    have h2 := len_stepsO hw (r := r) fun y hy => h y (List.mem_cons_of_mem _ hy)
    omega
abbrev RO (r : List (List Int)) : List D := r.map fun x => LL x
def rowsO (w : Int) : Nat → List (List Int)
  | 0 => [[0, w]]
  | n + 1 => (rowsO w n).flatMap (stepO w)
theorem rowsO_ok {w : Int} : ∀ n, ∀ x ∈ rowsO w n, Okl w n x
  | 0, x, h => by
    have : x = [0, w] := by simpa [rowsO] using h
    subst this
    exact ⟨by simp, by simp, fun c => by simp at c⟩
  | n + 1, x, h => by
    obtain ⟨x0, h0, h1⟩ := List.mem_flatMap.mp h
    exact mem_stepO (rowsO_ok n x0 h0) h1
theorem rowsO_len {w : Int} (hw : w ≤ 18) : ∀ n, (rowsO w n).length ≤ 18 ^ n
  | 0 => by simp [rowsO]
  | n + 1 => by
    have h1 := len_stepsO hw (rowsO_ok (w := w) n)
    have h2 := rowsO_len hw n
    rw [rowsO, Nat.pow_succ]
    omega
/-- one row made longer -/
theorem q_longer {w many : Int} {n : Nat} {r : List Int} {z2 z3 z4 z7 : Sl} (hw : w ≤ 18) (h0 : 0 ≤ w) (hn : n ≤ 40) (h : Okl w n r) (sp : SpO) :
    dLc (dRange2 (dCons (dRd 6) (dCons (dRd 1) dNil))) (gdName 7) (dTru (dCall m__law_lets 2 (dCons (dAg 5) (dCons (dAg 7) dNil)))) (dB gAdd (dRd 5) (dLst (dCons (dVar 7) dNil))) [7] [.dat (.int many), .dat (.int w), z2, z3, z4, .dat (LL r), .dat (.int (lowB r)), z7] sp = .ok (.ol (RO (stepO w r))) sp := by
  have hs : sizeLine = 16777216 := sizeLine_eq
  have hlp := lowB_pos h
  have h1 := h.len
  have hb : lowB r ≤ w + 1 ∨ lowB r = 1 := by
    unfold lowB
    split
    · rename_i c; have := (h.lo c).2; left; omega
    · right; rfl
  have ro : rgOk (lowB r) w = true := by simp [rgOk]; omega
  have k1 : lcGo (gdName 7) (dTru (dCall m__law_lets 2 (dCons (dAg 5) (dCons (dAg 7) dNil)))) (dB gAdd (dRd 5) (dLst (dCons (dVar 7) dNil))) [.dat (.int many), .dat (.int w), z2, z3, z4, .dat (LL r), .dat (.int (lowB r)), .un] ((rngI (lowB r) (w - lowB r).toNat).map PyData.int) [] sp = .ok (RO (stepO w r)) sp := by
    rw [lcGo_of _ (fun p => letsB r p) (fun p => LL (r ++ [p]))]
    · simp [stepO]
    · intro p hp acc hacc
      have e1 := q__law_lets r p sp (by omega)
      simp only [lcOne, gdName, List.set, dTru, dCall, dCons, dNil, dAg, List.getElem?_cons_zero, List.getElem?_cons_succ, Out.bind_ok, toAr, Sl.d?, Option.bind_some, List.length_cons, List.length_nil, if_true, e1, tru, optB_some, noX_ok]
      cases letsB r p with
      | false => simp
      | true =>
        have c1 : r.length ≤ 16777215 := by omega
        rw [hs] at hacc
        simp [dB, dRd, dLst, dCons, dNil, dVar, toDs, gAdd, hs, hacc, un2, c1]
    · simp [rngI]; omega
  simp [dLc, dRange2, dCons, dNil, dRd, rgS2, ro, optL, wipeD, rngD_eq]
  rw [k1]
  rfl
def bodyRow : DS := dSeq (dSet 6 (dIf (dTb (dB gGt (dBu gLen (dCons (dRd 5) dNil)) (dC (PyData.int 2)))) (dB gAdd (dB gIx (dRd 5) (dNeg (dC (PyData.int 1)))) (dC (PyData.int 1))) (dC (PyData.int 1)))) (dSeq (dSet 4 (dB gAdd (dRd 4) (dLc (dRange2 (dCons (dRd 6) (dCons (dRd 1) dNil))) (gdName 7) (dTru (dCall m__law_lets 2 (dCons (dAg 5) (dCons (dAg 7) dNil)))) (dB gAdd (dRd 5) (dLst (dCons (dVar 7) dNil))) [7]))) dNext)
theorem q_rows {w many : Int} {n : Nat} {R : List (List Int)} {z2 z3 z5 z6 : Sl} (hw : w ≤ 18) (h0 : 0 ≤ w) (hn : n ≤ 40) (h : ∀ x ∈ R, Okl w n x) (hl : R.length * 18 ≤ 16777216) (sp : SpO) :
    ∃ z5' z6', forGo (gdName 5) bodyRow (RO R) [.dat (.int many), .dat (.int w), z2, z3, .ol [], z5, z6, .un] sp = .ok (.nx [.dat (.int many), .dat (.int w), z2, z3, .ol (RO (R.flatMap (stepO w))), z5', z6', .un]) sp := by
  have hs : sizeLine = 16777216 := sizeLine_eq
  obtain ⟨ρ2, h1, z5', z6', h2⟩ := forGo_at (g := gdName 5) (tb := bodyRow) (sp := sp) (fun x : List Int => LL x) (fun j ρ => ∃ z5 z6, ρ = [.dat (.int many), .dat (.int w), z2, z3, .ol (RO ((R.take j).flatMap (stepO w))), z5, z6, .un]) R 0
    (ρ := [.dat (.int many), .dat (.int w), z2, z3, .ol [], z5, z6, .un]) (fun k ρ r hr ⟨z5, z6, e⟩ => by
      subst e
      rw [Nat.zero_add]
      have hm : r ∈ R := List.mem_of_getElem? hr
      have ok := h r hm
      have two := ok.two
      have e3 : (R.take (k + 1)).flatMap (stepO w) = (R.take k).flatMap (stepO w) ++ stepO w r := by
        rw [List.take_add_one, hr, List.flatMap_append]; simp
      have hlen : ((R.take (k + 1)).flatMap (stepO w)).length ≤ 16777216 := by
        have h1 := len_stepsO hw (r := R.take (k + 1)) fun x hx => h x (List.mem_of_mem_take hx)
        have h2 : (R.take (k + 1)).length ≤ R.length := by rw [List.length_take]; omega
        omega
      rw [e3, List.length_append] at hlen
      have e1 := fun (z2 z3 z4 z7 : Sl) => q_longer (z2 := z2) (z3 := z3) (z4 := z4) (z7 := z7) (many := many) hw h0 hn ok sp
      refine ⟨[.dat (.int many), .dat (.int w), z2, z3, .ol (RO ((R.take k).flatMap (stepO w))), .dat (LL r), z6, .un], [.dat (.int many), .dat (.int w), z2, z3, .ol (RO ((R.take (k + 1)).flatMap (stepO w))), .dat (LL r), .dat (.int (lowB r)), .un], rfl, ?_, _, _, rfl⟩
      have eLow : dIf (dTb (dB gGt (dBu gLen (dCons (dRd 5) dNil)) (dC (PyData.int 2)))) (dB gAdd (dB gIx (dRd 5) (dNeg (dC (PyData.int 1)))) (dC (PyData.int 1))) (dC (PyData.int 1)) [.dat (.int many), .dat (.int w), z2, z3, .ol (RO ((R.take k).flatMap (stepO w))), .dat (LL r), z6, .un] sp = .ok (.dat (.int (lowB r))) sp := by
        unfold lowB
        by_cases c : (2 : Int) < r.length
        · rw [if_pos c]
          have c' : 2 < r.length := by omega
          simp [dIf, dTb, dB, dBu, dCons, dNil, dRd, dC, gLen, itemsD, gGt, isB, c', gIx, dNeg, at_end r (by omega), gAdd, un2]
          intro q; omega
        · rw [if_neg c]
          have c' : ¬ 2 < r.length := by omega
          simp [dIf, dTb, dB, dBu, dCons, dNil, dRd, dC, gLen, itemsD, gGt, isB, c', un2]
          intro q; omega
      have c1 : (RO ((R.take k).flatMap (stepO w))).length + (RO (stepO w r)).length ≤ sizeLine := by
        rw [hs, List.length_map, List.length_map]; omega
      unfold bodyRow
      simp only [dSeq]
      rw [dSet, eLow]
      simp only [Out.bind_ok, List.set, dSet, dB, dRd, List.getElem?_cons_zero, List.getElem?_cons_succ]
      rw [e1]
      simp only [un2, gAdd, Sl.d?, Option.bind_some, if_pos c1, opt_some, Out.bind_ok, dNext, e3, List.map_append])
    ⟨z5, z6, rfl⟩
  rw [Nat.zero_add, List.take_length] at h2
  subst h2
  exact ⟨z5', z6', h1⟩
end Dn
namespace Dn
open PySem PySem.Spec PyProof.Rows L2
def leR (a b : List Int) : Bool := PySem.W.dataLe false id (TL a) (TL b)
def ownF (many : Nat) (w : Int) : List (List Int) := if many = 1 ∨ w < (many : Int) - 1 then (if many = 1 ∧ w = 0 then [[0]] else []) else isort leR ((rowsO w (many - 2)).map sortI)
theorem rows_sorted (rs : List (List Int)) : (rs.map TL).mergeSort (PySem.W.dataLe false id) = (isort leR rs).map TL := by
  have T : PySem.W.TotalLe (PySem.W.dataLe false (id : D → D)) := PySem.W.sortLe_total _ _ _
  rw [isort_merge (le := PySem.W.dataLe false id) T.trans fun a b => ?_, isort_map (f := TL) (le := leR) (le2 := PySem.W.dataLe false id) fun a b => rfl]
  rcases T.total a b with h | h
  · rw [h, Bool.true_or]
  · rw [h, Bool.or_true]
theorem alike_ILs : ∀ xs ys : List Int, PySem.W.alikeAll (IL xs) (IL ys) = true := PySem.W.alike_ints
theorem hasDict_IL : ∀ ns : List Int, PyData.hasDictAll (IL ns) = false
  | [] => by simp [IL, PyData.hasDictAll]
  | x :: xs => by
    simp only [IL, List.map_cons, PyData.hasDictAll, PyData.hasDict, Bool.false_or]
    exact hasDict_IL xs
theorem sortable_TL (rs : List (List Int)) (h : ∀ r ∈ rs, 0 < r.length) : sortable (rs.map TL) = true := by
  unfold sortable
  rw [Bool.and_eq_true, Bool.and_eq_true]
  refine ⟨⟨?_, ?_⟩, ?_⟩
  · rw [List.all_eq_true]
    intro d hd
    rw [List.all_eq_true]
    intro e he
    obtain ⟨a, _, rfl⟩ := List.mem_map.mp hd
    obtain ⟨b, _, rfl⟩ := List.mem_map.mp he
    rw [PySem.W.alike]
    exact alike_ILs a b
  · rw [Bool.or_eq_true]
    left
    rw [List.all_eq_true]
    intro d hd
    obtain ⟨a, ha, rfl⟩ := List.mem_map.mp hd
    have := h a ha
    cases a with
    | nil => simp at this
    | cons x xs => rfl
  · rw [List.all_eq_true]
    intro d hd
    obtain ⟨a, _, rfl⟩ := List.mem_map.mp hd
    have h1 : PyData.hasDict (TL a) = false := by rw [PyData.hasDict]; exact hasDict_IL a
    rw [h1, PyData.depth, depth_IL]
    decide
theorem q__law_found (many : Nat) (w : Int) (sp : SpO) (h1 : 1 ≤ many) (h2 : many ≤ 6) (h3 : 0 ≤ w) (h4 : w ≤ 18) : m__law_found [.dat (.int many), .dat (.int w)] sp = .ok (.ol ((ownF many w).map TL)) sp := by
  have hs : sizeLine = 16777216 := sizeLine_eq
  unfold m__law_found mirOf t__law_found ownF
  by_cases c1 : many = 1
  · subst c1
    by_cases c2 : w = 0
    · subst c2
      simp [dSeq, dIfS, dOrT, dTb, dB, dRd, dC, eq_int, isB, dRet, dIf, dAndT, dTup, dLst, dCons, dNil, toDs, Sl.d?, hs, un2]
    · simp [dSeq, dIfS, dOrT, dTb, dB, dRd, dC, eq_int, isB, dRet, dIf, dAndT, dTup, dLst, dCons, dNil, toDs, Sl.d?, hs, un2, c2]
  · have c1' : ¬ ((many : Int) = 1) := by omega
    by_cases c2 : w < (many : Int) - 1
    · simp [dSeq, dIfS, dOrT, dTb, dB, dRd, dC, eq_int, isB, dRet, dIf, dAndT, dTup, dLst, dCons, dNil, toDs, Sl.d?, hs, un2, c1, c1', c2, gLt, gSub]
    · have ro : rgOk 0 ((many : Int) - 2) = true := by simp [rgOk]; omega
      have e1 : ((many : Int) - 2).toNat = many - 2 := by omega
      have hp : ∀ k, k ≤ many - 2 → (18 : Nat) ^ k ≤ 18 ^ 4 := fun k hk => Nat.pow_le_pow_right (by omega) (by omega)
      have h18 : (18 : Nat) ^ 4 = 104976 := by decide
      obtain ⟨ρ2, hf, s2, z3, z4, z5, z6, hρ, hs2⟩ := forGo_up (g := gdName 3) (sp := sp) (ρ := [.dat (.int many), .dat (.int w), .ol [.list [.int 0, .int w]], .un, .un, .un, .un, .un])
        (tb := dSeq (dSet 4 (dLst dNil)) (dFrz 2 (dSeq (dFor (dItems (dVar 2)) (gdName 5) bodyRow) (dFrz 4 (dSeq (dSet 2 (dVar 4)) dNext))))) 0 (many - 2)
        (fun k ρ => ∃ s2 z3 z4 z5 z6, ρ = [.dat (.int many), .dat (.int w), s2, z3, z4, z5, z6, .un] ∧ (s2 = .ol (RO (rowsO w k)) ∨ s2 = .dat (.list (RO (rowsO w k))))) (fun k ρ hk ⟨s2, z3, z4, z5, z6, hρ, hs2⟩ => by
          subst hρ
          have hl := rowsO_len h4 k
          have hl2 := hp k (by omega)
          obtain ⟨z5', z6', e⟩ := q_rows (many := many) (z2 := .dat (.list (RO (rowsO w k)))) (z3 := .dat (.int ((0 : Int) + (k : Int)))) (z5 := z5) (z6 := z6) h4 h3 (n := k) (by omega) (rowsO_ok k) (by omega) sp
          refine ⟨_, [.dat (.int many), .dat (.int w), .dat (.list (RO (rowsO w (k + 1)))), .dat (.int ((0 : Int) + (k : Int))), .dat (.list (RO (rowsO w (k + 1)))), z5', z6', .un], rfl, ?_, _, _, _, _, _, rfl, .inr rfl⟩
          rcases hs2 with rfl | rfl <;>
          · simp only [dSeq, dSet, dLst, dNil, toDs_nil, Out.bind_ok, List.length_nil, List.set, dFrz, List.getElem?_cons_zero, List.getElem?_cons_succ, dFor, dItems, dVar, seqD, optL, if_pos (Nat.zero_le sizeLine)]
            rw [e]
            simp only [Out.bind_ok, dFrz, List.getElem?_cons_zero, List.getElem?_cons_succ, List.set, dSet, dVar, dNext, rowsO])
        ⟨_, _, _, _, _, rfl, .inl rfl⟩
      subst hρ
      have hl := rowsO_len h4 (many - 2)
      have hl2 := hp (many - 2) (Nat.le_refl _)
      have k1 : ∀ z3 z4 z6, lcGo (gdName 5) dYes (dBu gTuple (dCons (dBu gSorted (dCons (dRd 5) dNil)) dNil)) [.dat (.int many), .dat (.int w), s2, z3, z4, .un, z6, .un] (RO (rowsO w (many - 2))) [] sp = .ok (((rowsO w (many - 2)).map sortI).map TL) sp := fun z3 z4 z6 => by
        rw [lcGo_all _ (fun r => TL (sortI r))]
        · simp
        · intro r hr acc hacc
          have ok := rowsO_ok (w := w) (many - 2) r hr
          have := ok.len
          simp [lcOne, gdName, dYes, dBu, dCons, dNil, dRd, gSorted_dat r (by omega), gTuple, itemsD, hacc]
        · rw [List.length_nil, hs]; omega
      have hso : gSorted [.ol (((rowsO w (many - 2)).map sortI).map TL)] = some (.ol ((isort leR ((rowsO w (many - 2)).map sortI)).map TL)) := by
        unfold gSorted
        simp only [lstD_ol, Option.bind_some]
        rw [if_pos ⟨sortable_TL _ (fun r hr => by
          obtain ⟨r0, h0, rfl⟩ := List.mem_map.mp hr
          have := (rowsO_ok (w := w) (many - 2) r0 h0).two
          rw [sortI_len]; omega), by rw [hs, List.length_map, List.length_map]; omega⟩, rows_sorted]
      have e9 : dSeq (dSet 6 (dIf (dTb (dB gGt (dBu gLen (dCons (dRd 5) dNil)) (dC (PyData.int 2)))) (dB gAdd (dB gIx (dRd 5) (dNeg (dC (PyData.int 1)))) (dC (PyData.int 1))) (dC (PyData.int 1)))) (dSeq (dSet 4 (dB gAdd (dRd 4) (dLc (dRange2 (dCons (dRd 6) (dCons (dRd 1) dNil))) (gdName 7) (dTru (dCall m__law_lets 2 (dCons (dAg 5) (dCons (dAg 7) dNil)))) (dB gAdd (dRd 5) (dLst (dCons (dVar 7) dNil))) [7]))) dNext) = bodyRow := rfl
      rw [e9]
      generalize hB : dSeq (dSet 4 (dLst dNil)) (dFrz 2 (dSeq (dFor (dItems (dVar 2)) (gdName 5) bodyRow) (dFrz 4 (dSeq (dSet 2 (dVar 4)) dNext)))) = B at hf
      simp [dSeq, dIfS, dOrT, dTb, dB, dRd, dC, eq_int, isB, dTup, dCons, dNil, toDs, Sl.d?, hs, un2, c1, c1', c2, gLt, dNext, dSet, dLst, dVar, dFor, dRange1, gSub, rgS1, ro, e1, optL]
      rw [hf]
      rcases hs2 with rfl | rfl <;> simp [dRet, dBu, dCons, dNil, dLc, dItems, dRd, seqD, optL, wipeD, k1, hso, -List.map_map]
end Dn
namespace Dn
open PySem PySem.Spec PyProof.Rows L2
/-! ### rows as data -/
abbrev RT (rs : List (List Int)) : List D := rs.map TL
theorem canLay_RT : ∀ rs : List (List Int), PyData.canLayAll0 (RT rs) = true
  | [] => by simp [PyData.canLayAll0]
  | r :: rs => by
    have := canLay_RT rs
    simp only [List.map_cons, PyData.canLayAll0, PyData.canLay0, canLay_IL, Bool.true_and]
    exact this
theorem depth_RT : ∀ rs : List (List Int), PyData.depthAll (RT rs) ≤ 1
  | [] => by simp [PyData.depthAll]
  | r :: rs => by
    have := depth_RT rs
    simp only [List.map_cons, PyData.depthAll, PyData.depth, depth_IL]
    have h : PyData.depthAll (List.map TL rs) ≤ 1 := this
    omega
theorem sh_list (rs : List (List Int)) : SeqAt.shaped (.list (RT rs)) = true := by
  unfold SeqAt.shaped
  rw [PyData.canLay0, canLay_RT, PyData.depth, Bool.true_and, decide_eq_true_eq]
  have := depth_RT rs
  omega
theorem sh_tup (rs : List (List Int)) : SeqAt.shaped (.tuple (RT rs)) = true := by
  unfold SeqAt.shaped
  rw [PyData.canLay0, canLay_RT, PyData.depth, Bool.true_and, decide_eq_true_eq]
  have := depth_RT rs
  omega
theorem ne_list (rs : List (List Int)) : gNe (.list (RT rs)) (.list []) = some (.dat (.bool (!rs.isEmpty))) := by
  unfold gNe strs?
  simp only [sh_list, show SeqAt.shaped (.list []) = true from sh_list [], Bool.and_self, if_true]
  cases rs <;> simp [PyData.eqv, PyData.eqvAll]
theorem eq_tup (rs : List (List Int)) : gEq (.tuple (RT rs)) (.tuple []) = some (.dat (.bool rs.isEmpty)) := by
  unfold gEq strs?
  simp only [sh_tup, show SeqAt.shaped (.tuple []) = true from sh_tup [], Bool.and_self, if_true]
  cases rs <;> simp [PyData.eqv, PyData.eqvAll]
/-! ### the shortest ones -/
structure Least (few L : Nat) : Prop where
  f1 : 1 ≤ few
  f6 : few ≤ 6
  l18 : L ≤ 17
  o0 : ∀ w, w < L → ownF few w = []
  o1 : ownF few L ≠ []
  s0 : few * (few - 1) / 2 ≤ L
  p0 : ∀ w, few * (few - 1) / 2 ≤ w → w < L → rulP few w = []
  p1 : rulP few L ≠ []
theorem q__law_shortest {few L : Nat} (h : Least few L) (sp : SpO) : m__law_shortest [.dat (.int few)] sp = .ok (.dat (.tuple [.int L, .list (RT (ownF few L))])) sp := by
  have hs : sizeLine = 16777216 := sizeLine_eq
  have hL := h.l18
  let B : DS := dSeq (dSet 2 (dCall m__law_found 2 (dCons (dAg 0) (dCons (dAg 1) dNil)))) (dSeq (dIfS (dTb (dB gNe (dRd 2) (dLst dNil))) (dFrz 2 (dRet (dTup (dCons (dVar 1) (dCons (dVar 2) dNil))))) dNext) dNext)
  have step : ∀ (k : Nat) (z : Sl), k ≤ 18 → B [.dat (.int few), .dat (.int k), z] sp = if (ownF few k).isEmpty = true then .ok (.nx [.dat (.int few), .dat (.int k), .ol (RT (ownF few k))]) sp else .ok (.rt (.dat (.tuple [.int k, .list (RT (ownF few k))]))) sp := fun k z hk => by
    have e := q__law_found few k sp h.f1 h.f6 (by omega) (by omega)
    show dSeq _ _ _ _ = _
    simp only [dSeq, dSet, dCall, dCons, dNil, dAg, List.getElem?_cons_zero, List.getElem?_cons_succ, Out.bind_ok, toAr, Sl.d?, Option.bind_some, List.length_cons, List.length_nil, if_true, e, List.set]
    simp only [dIfS, dTb, dB, dRd, dLst, dNil, toDs_nil, List.length_nil, if_pos (Nat.zero_le sizeLine), List.getElem?_cons_zero, List.getElem?_cons_succ, Out.bind_ok, un2_ll, ne_list, opt_some, isB, optB_some]
    cases (ownF few k).isEmpty with
    | true => simp [dNext]
    | false => simp [dFrz, dRet, dTup, dCons, dVar, dNil, toDs, Sl.d?, hs]
  obtain ⟨ρ2, rest, h1, z1, z2, h2⟩ := forGo_upto (g := gdName 1) (tb := B) (sp := sp) (ρ := [.dat (.int few), .un, .un]) 40 L (fun k ρ => ∃ z1 z2, ρ = [.dat (.int few), z1, z2]) (by omega) (fun k ρ hk ⟨z1, z2, hr⟩ => by
    subst hr
    refine ⟨_, [.dat (.int few), .dat (.int k), .ol (RT (ownF few k))], rfl, ?_, _, _, rfl⟩
    show B [.dat (.int few), .dat (.int k), z2] sp = _
    rw [step k z2 (by omega), h.o0 k hk]
    rfl) ⟨_, _, rfl⟩
  subst h2
  have e3 : forGo (gdName 1) B (.int (L : Int) :: rest) [.dat (.int few), z1, z2] sp = .ok (.rt (.dat (.tuple [.int L, .list (RT (ownF few L))]))) sp := by
    rw [forGo]
    simp only [gdName, List.set]
    rw [step L z2 (by omega)]
    have : (ownF few L).isEmpty = false := by
      cases q : ownF few L with
      | nil => exact absurd q h.o1
      | cons _ _ => rfl
    rw [this]
    rfl
  unfold m__law_shortest mirOf t__law_shortest
  have ro : rgOk 0 40 = true := by decide
  simp only [dSeq, dFor, dRange1, dCons, dC, dNil, Out.bind_ok, rgS1, ro, if_true, optL, List.cons_append, List.nil_append, List.replicate]
  have e4 : (40 : Int).toNat = 40 := rfl
  rw [e4]
  show (Out.bind (Out.bind (forGo (gdName 1) B (rngD 0 40) _ sp) _) _) = _
  rw [h1, e3]
  rfl
theorem q_shortest_by {few L : Nat} (h : Least few L) (sp : SpO) : m_shortest_by [.dat (.int few)] sp = .ok (.dat (.int L)) sp := by
  have hs : sizeLine = 16777216 := sizeLine_eq
  have hL := h.l18
  let c : DT := dTb (dB gEq (dCall m_rulers_of_length 2 (dCons (dAg 0) (dCons (dAg 1) dNil))) (dTup dNil))
  let b : DS := dSeq (dAugI (fun i j => i + j) 1 (dC (PyData.int 1))) dNext
  have hc : ∀ k : Nat, k ≤ 18 → c [.dat (.int few), .dat (.int k)] sp = .ok (rulP few k).isEmpty sp := fun k hk => by
    have e := q_rulers_of_length few k sp h.f1 h.f6 (by omega) (by omega)
    show dTb _ _ _ = _
    simp only [dTb, dB, dCall, dCons, dNil, dAg, List.getElem?_cons_zero, List.getElem?_cons_succ, Out.bind_ok, toAr, Sl.d?, Option.bind_some, List.length_cons, List.length_nil, if_true, e, dTup, toDs_nil, if_pos (Nat.zero_le sizeLine), un2_dd, eq_tup, opt_some, isB, optB_some]
  have wh : ∀ (d : Nat) (n k : Nat), k + d = L → d < n → few * (few - 1) / 2 ≤ k → whGo c b n [.dat (.int few), .dat (.int k)] sp = .ok (.nx [.dat (.int few), .dat (.int L)]) sp := by
    intro d
    induction d with
    | zero =>
      intro n k hk hn _
      obtain ⟨n, rfl⟩ : ∃ j, n = j + 1 := ⟨n - 1, by omega⟩
      obtain rfl : k = L := by omega
      rw [whGo, hc k (by omega)]
      have : (rulP few k).isEmpty = false := by
        cases q : rulP few k with
        | nil => exact absurd q h.p1
        | cons _ _ => rfl
      rw [this]
      rfl
    | succ d ih =>
      intro n k hk hn h0
      obtain ⟨n, rfl⟩ : ∃ j, n = j + 1 := ⟨n - 1, by omega⟩
      rw [whGo, hc k (by omega), h.p0 k h0 (by omega), Out.bind_ok]
      have e : b [.dat (.int few), .dat (.int k)] sp = .ok (.nx [.dat (.int few), .dat (.int ((k + 1 : Nat) : Int))]) sp := by
        show dSeq _ _ _ _ = _
        simp [dSeq, dAugI, dC, dNext]
      rw [if_pos (show ([] : List (List Int)).isEmpty = true from rfl), e]
      exact ih n (k + 1) (by omega) (by omega) (by omega)
  have e0 : ((few : Int) * ((few : Int) - 1)).fdiv 2 = ((few * (few - 1) / 2 : Nat) : Int) := by
    have h1 := h.f1
    have h6 := h.f6
    rcases (by omega : few = 1 ∨ few = 2 ∨ few = 3 ∨ few = 4 ∨ few = 5 ∨ few = 6) with rfl | rfl | rfl | rfl | rfl | rfl <;> decide
  have e1 : dB gFdiv (dB gMul (dRd 0) (dB gSub (dRd 0) (dC (PyData.int 1)))) (dC (PyData.int 2)) [.dat (.int few), .un] sp = .ok (.dat (.int ((few * (few - 1) / 2 : Nat) : Int))) sp := by
    have h1 := h.f1
    have h6 := h.f6
    rcases (by omega : few = 1 ∨ few = 2 ∨ few = 3 ∨ few = 4 ∨ few = 5 ∨ few = 6) with rfl | rfl | rfl | rfl | rfl | rfl <;> rfl
  have w0 := wh (L - few * (few - 1) / 2) fuelN (few * (few - 1) / 2) (by have := h.s0; omega) (by show _ < 1000; omega) (Nat.le_refl _)
  unfold m_shortest_by mirOf t_shortest_by
  simp only [dSeq, dSet, List.replicate, List.cons_append, List.nil_append, e1, Out.bind_ok, List.set, dWhile]
  show (Out.bind (Out.bind (whGo c b fuelN _ sp) _) _) = _
  rw [w0]
  rfl
end Dn
namespace Dn
open PySem PySem.Spec PyProof.Rows L2
/-! ### checks, and the asked functions -/
theorem q_is_whole (i : Int) (sp : SpO) : m_is_whole [.dat (.int i)] sp = .ok (.dat (.bool true)) sp := by
  unfold m_is_whole mirOf t_is_whole
  simp [dRet, dAnd, dIsi, dRd, dNot, isB, PyData.isInt, PyData.isBool, PyData.hasDict]
theorem q_between (i lo hi : Int) (sp : SpO) : m_is_whole_between [.dat (.int i), .dat (.int lo), .dat (.int hi)] sp = .ok (.dat (.bool (decide (lo ≤ i) && decide (i ≤ hi)))) sp := by
  unfold m_is_whole_between mirOf t_is_whole_between
  simp [dRet, dAnd, dCall, dCons, dNil, dAg, toAr, q_is_whole, isB, dChain, dRd, gLe, un2]
  by_cases h : lo ≤ i
  · simp [h]
  · simp [h]
theorem q_check_number (i lo hi : Int) (sp : SpO) (h1 : lo ≤ i) (h2 : i ≤ hi) : m_check_number [.dat (.int i), .dat (.int lo), .dat (.int hi)] sp = .ok (.dat .none) sp := by
  unfold m_check_number mirOf t_check_number
  simp [dSeq, dIfS, dNotT, dTru, dCall, dCons, dNil, dAg, toAr, q_between, tru, h1, h2, dNext]
theorem q_rulers_of (many : Nat) (w : Int) (sp : SpO) (h0 : 1 ≤ many) (h1 : many ≤ 6) (h2 : 0 ≤ w) (h3 : w ≤ 18) : m_rulers_of [.dat (.int many), .dat (.int w)] sp = .ok (.dat (.tuple (RT (rulP many w)))) sp := by
  have e1 := q_check_number many 1 6 sp (by omega) (by omega)
  have e2 := q_check_number w 0 30 sp (by omega) (by omega)
  have e3 := q_rulers_of_length many w sp h0 h1 h2 h3
  unfold m_rulers_of mirOf t_rulers_of
  simp only [dSeq, dDrop, dCall, dCons, dNil, dAg, dC, List.replicate, List.cons_append, List.nil_append, List.getElem?_cons_zero, List.getElem?_cons_succ, Out.bind_ok, toAr, Sl.d?, Option.bind_some, List.length_cons, List.length_nil, if_true, e1, e2, dRet, e3]
theorem q_shortest_length {few L : Nat} (h : Least few L) (sp : SpO) : m_shortest_length [.dat (.int few)] sp = .ok (.dat (.int L)) sp := by
  have e1 := q_check_number few 1 6 sp (by have := h.f1; omega) (by have := h.f6; omega)
  have e3 := q_shortest_by h sp
  unfold m_shortest_length mirOf t_shortest_length
  simp only [dSeq, dDrop, dCall, dCons, dNil, dAg, dC, List.replicate, List.cons_append, List.nil_append, List.getElem?_cons_zero, List.getElem?_cons_succ, Out.bind_ok, toAr, Sl.d?, Option.bind_some, List.length_cons, List.length_nil, if_true, e1, dRet, e3]
theorem q_shortest_rulers {few L : Nat} (h : Least few L) (sp : SpO) : m_shortest_rulers [.dat (.int few)] sp = .ok (.dat (.tuple (RT (rulP few L)))) sp := by
  have e1 := q_check_number few 1 6 sp (by have := h.f1; omega) (by have := h.f6; omega)
  have e3 := q_shortest_by h sp
  have e4 := q_rulers_of_length few L sp h.f1 h.f6 (by omega) (by have := h.l18; omega)
  unfold m_shortest_rulers mirOf t_shortest_rulers
  simp only [dSeq, dDrop, dCall, dCons, dNil, dAg, dC, List.replicate, List.cons_append, List.nil_append, List.getElem?_cons_zero, List.getElem?_cons_succ, Out.bind_ok, toAr, Sl.d?, Option.bind_some, List.length_cons, List.length_nil, if_true, e1, dRet, e3, e4]
/-! marks that go up -/
def incB : List Int → Bool
  | [] => true
  | [_] => true
  | a :: b :: l => decide (a < b) && incB (b :: l)
theorem inc_at : ∀ {ms : List Int} {k : Nat} {a b : Int}, incB ms = true → ms[k]? = some a → ms[k + 1]? = some b → a < b
  | x :: y :: l, 0, a, b, h, e1, e2 => by
    simp only [List.getElem?_cons_zero, List.getElem?_cons_succ] at e1 e2
    cases e1; cases e2
    rw [incB, Bool.and_eq_true] at h
    exact of_decide_eq_true h.1
  | x :: y :: l, k + 1, a, b, h, e1, e2 => by
    rw [incB, Bool.and_eq_true] at h
    rw [List.getElem?_cons_succ] at e1 e2
    exact inc_at h.2 e1 e2
  | [x], k, a, b, h, e1, e2 => by simp at e2
  | [], k, a, b, h, e1, e2 => by simp at e2
theorem q_wrong (ms : List Int) (sp : SpO) (h : incB ms = true) (hl : ms.length ≤ 60) : m_wrong_in_marks [.dat (TL ms)] sp = .ok (.ol []) sp := by
  have hs : sizeLine = 16777216 := sizeLine_eq
  let B : DS := dSeq (dIfS (dOrT (dNotT (dTru (dCall m_is_whole 1 (dCons (dAg 2) dNil)))) (dAndT (dTb (dB gGt (dRd 1) (dC (PyData.int 0)))) (dTb (dB gGe (dB gIx (dRd 0) (dB gSub (dRd 1) (dC (PyData.int 1)))) (dRd 2))))) (dRet (dLst (dCons (dVar 1) dNil))) dNext) dNext
  obtain ⟨ρ2, h1, z1, z2, h2⟩ := forGo_at (g := gdTup 2 (gdCons (gdName 1) (gdCons (gdName 2) gdNil))) (tb := B) (sp := sp) (fun p : Int × Nat => .tuple [.int (p.2 : Nat), .int p.1]) (fun j ρ => ∃ z1 z2, ρ = [.dat (TL ms), z1, z2]) ms.zipIdx 0 (ρ := [.dat (TL ms), .un, .un]) (fun k ρ p hp ⟨z1, z2, e⟩ => by
    subst e
    refine ⟨[.dat (TL ms), .dat (.int (p.2 : Nat)), .dat (.int p.1)], [.dat (TL ms), .dat (.int (p.2 : Nat)), .dat (.int p.1)], rfl, ?_, _, _, rfl⟩
    rw [List.getElem?_zipIdx] at hp
    cases hm : ms[k]? with
    | none => rw [hm] at hp; simp at hp
    | some x =>
      rw [hm] at hp
      simp only [Option.map_some, Option.some.injEq, Nat.zero_add] at hp
      subst hp
      show dSeq _ _ _ _ = _
      cases k with
      | zero => simp [dSeq, dIfS, dOrT, dNotT, dTru, dCall, dCons, dNil, dAg, toAr, q_is_whole, tru, dAndT, dTb, dB, dRd, dC, gGt, un2, isB, dNext]
      | succ k =>
        obtain ⟨a, ha⟩ : ∃ a, ms[k]? = some a := get_lt (by have := (List.getElem?_eq_some_iff.mp hm).1; omega)
        have lt := inc_at h ha hm
        have e1 : atI (IL ms) (((k + 1 : Nat) : Int) - 1) = some (.int a) := by
          rw [show ((k + 1 : Nat) : Int) - 1 = (k : Int) by omega]
          exact at_nat ms k a ha
        have lt2 : ¬ x ≤ a := by omega
        have gt0 : (0 : Int) < ((k + 1 : Nat) : Int) := by omega
        simp only [dSeq, dIfS, dOrT, dNotT, dTru, dCall, dCons, dNil, dAg, List.getElem?_cons_zero, List.getElem?_cons_succ, Out.bind_ok, toAr, Sl.d?, Option.bind_some, List.length_cons, List.length_nil, if_true, q_is_whole, tru, optB_some, Bool.not_true, Bool.false_eq_true, if_false, dAndT, dTb, dB, dRd, dC, un2_dd, gGt, opt_some, isB, decide_eq_true gt0, gSub, gIx, e1, Option.map_some, gGe, decide_eq_false lt2, dNext]) ⟨_, _, rfl⟩
  subst h2
  unfold m_wrong_in_marks mirOf t_wrong_in_marks
  have c1 : ¬ ((60 : Int) < (ms.length : Int)) := by omega
  simp only [dSeq, dIfS, dOrT, dNotT, dTru, dIsi, dRd, List.replicate, List.cons_append, List.nil_append, List.getElem?_cons_zero, List.getElem?_cons_succ, Out.bind_ok, Sl.d?, PyData.hasDict, hasDict_IL, if_true, PyData.isTuple, tru, optB_some, Bool.not_true, Bool.false_eq_true, if_false, dTb, dB, dBu, dCons, dNil, gLen_tup, List.length_map, opt_some, dC, un2_dd, gGt, isB, decide_eq_false c1, dNext, dFor, dEnum, dVar, itemsD, Option.map_some, optL, enum_map]
  show (Out.bind (Out.bind (forGo _ B _ _ sp) _) _) = _
  rw [h1]
  simp [dRet, dLst, dNil, toDs]
theorem q_check_marks (ms : List Int) (sp : SpO) (h : incB ms = true) (hl : ms.length ≤ 60) : m_check_marks [.dat (TL ms)] sp = .ok (.dat .none) sp := by
  unfold m_check_marks mirOf t_check_marks
  simp [dSeq, dFor, dItems, dCall, dCons, dNil, dAg, toAr, q_wrong ms sp h hl, seqD, optL, forGo, dNext, -List.map_append]
theorem q_is_ruler (ms : List Int) (sp : SpO) (h : incB ms = true) (hl : ms.length ≤ 60) : m_is_ruler [.dat (TL ms)] sp = .ok (.dat (.bool (freshF [] (lensI ms)))) sp := by
  have e1 := q_check_marks ms sp h hl
  have e2 := q_ruler_lengths ms sp hl
  have hb := lens_le ms
  have hm : ms.length * ms.length ≤ 60 * 60 := Nat.mul_le_mul hl hl
  have hu := uniq_le (lensI ms)
  have e3 : m_is_ruler_by [.dat (TL ms)] sp = .ok (.dat (.bool (freshF [] (lensI ms)))) sp := by
    unfold m_is_ruler_by mirOf t_is_ruler_by
    simp only [dSeq, dSet, dCall, dCons, dNil, dAg, List.replicate, List.cons_append, List.nil_append, List.getElem?_cons_zero, List.getElem?_cons_succ, Out.bind_ok, toAr, Sl.d?, Option.bind_some, List.length_cons, List.length_nil, if_true, e2, List.set]
    simp [dRet, dB, dBu, dCons, dNil, dRd, gSet_ol _ (show (lensI ms).length + 1 < 4096 by omega), gLen_os _ (show (uniq (lensI ms)).length ≤ 1048576 by omega), gLen_ol, un2, eq_int, uniq_len]
  unfold m_is_ruler mirOf t_is_ruler
  simp only [dSeq, dDrop, dCall, dCons, dNil, dAg, List.replicate, List.cons_append, List.nil_append, List.getElem?_cons_zero, List.getElem?_cons_succ, Out.bind_ok, toAr, Sl.d?, Option.bind_some, List.length_cons, List.length_nil, if_true, e1, dRet, e3]
def gapsI (ms : List Int) : List Int := (ms.zip (ms.drop 1)).map fun p => p.2 - p.1
theorem q_gaps_of (ms : List Int) (sp : SpO) (h : incB ms = true) (hl : ms.length ≤ 60) : m_gaps_of [.dat (TL ms)] sp = .ok (.dat (TL (gapsI ms))) sp := by
  have hs : sizeLine = 16777216 := sizeLine_eq
  have e1 := q_check_marks ms sp h hl
  have e2 : m_gaps_by [.dat (TL ms)] sp = .ok (.dat (TL (gapsI ms))) sp := by
    have ez : zipD (IL ms) (IL (ms.drop 1)) = (ms.zip (ms.drop 1)).map fun p : Int × Int => .tuple [.int p.1, .int p.2] := by
      unfold zipD IL
      rw [List.zipWith_map, List.map_zip_eq_zipWith]
      rfl
    have ec : cutD (IL ms) (some 1) none = IL (ms.drop 1) := by
      have := cut_drop (IL ms) 1
      rw [show ((1 : Nat) : Int) = 1 from rfl] at this
      rw [this]; simp [IL]
    have k1 : lcGo (gdTup 2 (gdCons (gdName 1) (gdCons (gdName 2) gdNil))) dYes (dB gSub (dRd 2) (dRd 1)) [.dat (TL ms), .un, .un] (zipD (IL ms) (IL (ms.drop 1))) [] sp = .ok (IL (gapsI ms)) sp := by
      rw [ez, lcGo_all _ (fun p : Int × Int => .int (p.2 - p.1))]
      · rw [List.nil_append, gapsI, IL, List.map_map]
        rfl
      · intro p hp acc hacc
        simp [lcOne, gdTup, gdCons, gdName, gdNil, dYes, dB, dRd, gSub, hacc]
      · simp; omega
    unfold m_gaps_by mirOf t_gaps_by
    simp only [dRet, dBu, dCons, dNil, dLc, dZip, dRd, dSl, dP0, dP1, dC, List.replicate, List.cons_append, List.nil_append, List.getElem?_cons_zero, Out.bind_ok, Sl.d?, Option.bind_some, gSl, ec, opt_some, zipS, optL, wipeD, List.set, k1]
    rfl
  unfold m_gaps_of mirOf t_gaps_of
  simp only [dSeq, dDrop, dCall, dCons, dNil, dAg, List.replicate, List.cons_append, List.nil_append, List.getElem?_cons_zero, List.getElem?_cons_succ, Out.bind_ok, toAr, Sl.d?, Option.bind_some, List.length_cons, List.length_nil, if_true, e1, dRet, e2]
end Dn
namespace Dn
open PySem PySem.Spec PyProof.Rows L2
/-! ### the spring -/
def mixA (y z : Int) : Int := (y * 40692 + 3791 * z + 101).fmod 2147483399
def mixB (m z : Int) : Int := (m * (m.fmod 4099 + 16807) + z).fmod 2147483399
theorem q_draw (t : Int × Int × Int) (n : Nat) (h : 0 < n) (h2 : n < 1000) : ∃ (r : Nat) (t' : Int × Int × Int), r < n ∧ m__law_draw [.spr, .dat (.int n)] (some t) = .ok (.dat (.int r)) (some t') := by
  obtain ⟨x, y, z⟩ := t
  have hn0 : (n : Int) ≠ 0 := by omega
  have hnp : (0 : Int) < n := by omega
  unfold m__law_draw mirOf t__law_draw
  by_cases hx : 0 < x
  · have hpy : Builtin.divisionGoesByPylong x n = false := PyProof.noPylong_small (by omega)
    have e1 : x % (n : Int) = ((x % (n : Int)).toNat : Int) := by
      have := Int.emod_nonneg x hn0
      omega
    refine ⟨(x % (n : Int)).toNat, (x / n, y, z), ?_, ?_⟩
    · have := Int.emod_lt_of_pos x hnp
      have := Int.emod_nonneg x hn0
      omega
    · rw [← e1]
      simp [dSeq, dIfS, dTb, dB, dSpr, dC, gGt, un2, isB, hx, dSprPair, dBu, dCons, dNil, dRd, gDivmod, hnp, h, hpy, setK, dRetV]
  · have c0 : ¬ (0 : Int) < x := hx
    have mk : ∀ i j : Int, j.natAbs < 2 ^ 64 → gMul (.int i) (.int j) = some (.dat (.int (i * j))) := fun i j hj => by
      unfold gMul mulOk
      simp [hj]
    have mk2 : ∀ i j : Int, i.natAbs < 2 ^ 64 → gMul (.int i) (.int j) = some (.dat (.int (i * j))) := fun i j hj => by
      unfold gMul mulOk
      simp [hj]
    have md : ∀ i j : Int, j ≠ 0 → gMod (.int i) (.int j) = some (.dat (.int (i.fmod j))) := fun i j hj => by
      unfold gMod
      simp [hj]
    have fd : ∀ i : Int, gFdiv (.int i) (.int 257) = some (.dat (.int (i.fdiv 257))) := fun i => by
      unfold gFdiv
      have : Builtin.divisionGoesByPylong i 257 = false := PyProof.noPylong_small (by omega)
      simp [this]
    have k1 : ∀ i : Int, gMul (.int i) (.int 40692) = some (.dat (.int (i * 40692))) := fun i => mk i _ (by decide)
    have k2 : ∀ i : Int, gMul (.int 3791) (.int i) = some (.dat (.int (3791 * i))) := fun i => mk2 _ i (by decide)
    have k3 : ∀ i : Int, gMod (.int i) (.int 2147483399) = some (.dat (.int (i.fmod 2147483399))) := fun i => md i _ (by decide)
    have k4 : ∀ i : Int, gMod (.int i) (.int 4099) = some (.dat (.int (i.fmod 4099))) := fun i => md i _ (by decide)
    have k5 : ∀ i : Int, gMul (.int i) (.int (i.fmod 4099 + 16807)) = some (.dat (.int (i * (i.fmod 4099 + 16807)))) := fun i => mk i _ (by
      have a0 := Int.fmod_nonneg_of_pos i (show (0 : Int) < 4099 by omega)
      have a1 := Int.fmod_lt_of_pos i (show (0 : Int) < 4099 by omega)
      omega)
    have k7 : ∀ i : Int, gMod (.int i) (.int n) = some (.dat (.int (i.fmod n))) := fun i => md i _ hn0
    obtain ⟨w, y', z', e⟩ : ∃ w y' z', (Out.bind (t__law_draw ([.spr, .dat (.int n)] ++ List.replicate 2 .un) (some (x, y, z))) fun fl sp1 => match fl with
        | .rt s => .ok s sp1
        | .nx _ => .ok (.dat .none) sp1
        | _ => .bad) = .ok (.dat (.int ((w : Int).fmod n))) (some (x, y', z')) := by
      refine ⟨(mixB (mixA y (z + 1)) (z + 1)).fdiv 257, mixB (mixA y (z + 1)) (z + 1), z + 1, ?_⟩
      unfold t__law_draw
      simp only [dSeq, dIfS, dTb, dB, dSpr, dC, List.replicate, List.cons_append, List.nil_append, List.getElem?_cons_zero, List.getElem?_cons_succ, Out.bind_ok, gGt, un2_dd, opt_some, isB, optB_some, decide_eq_false c0, Bool.false_eq_true, if_false, dNext, dSprSet, gAdd, setK, show (2 : Nat) < 3 from by decide, show (1 : Nat) < 3 from by decide, if_true,
        dSet, dBu, dCons, dNil, gInt, List.set, dRd, dRet, k1, k2, k3, k4, k5, fd, k7]
      rfl
    have r0 := Int.fmod_nonneg_of_pos w hnp
    have r1 := Int.fmod_lt_of_pos w hnp
    refine ⟨(w.fmod n).toNat, (x, y', z'), by omega, ?_⟩
    rw [show (((w.fmod n).toNat : Nat) : Int) = w.fmod n by omega]
    exact e
theorem gmul_r (i j : Int) (hj : j.natAbs < 2 ^ 64) : gMul (.int i) (.int j) = some (.dat (.int (i * j))) := by
  unfold gMul mulOk
  simp [hj]
theorem gmul_l (i j : Int) (hj : i.natAbs < 2 ^ 64) : gMul (.int i) (.int j) = some (.dat (.int (i * j))) := by
  unfold gMul mulOk
  simp [hj]
theorem gmod_n (i j : Int) (hj : j ≠ 0) : gMod (.int i) (.int j) = some (.dat (.int (i.fmod j))) := by
  unfold gMod
  simp [hj]
theorem q_spring (ns : List Int) (turn : Nat) (h : ns.length ≤ 63) (ht : turn ≤ 5) : ∃ a b c : Int, m__law_spring [.dat (LL ns), .dat (.int turn)] none = .ok (.ol [.int a, .int b, .int c]) none := by
  have hs : sizeLine = 16777216 := sizeLine_eq
  have m1 : ∀ i : Int, gMul (.int i) (.int 48271) = some (.dat (.int (i * 48271))) := fun i => gmul_r i _ (by decide)
  have m2 : ∀ i : Int, gMul (.int i) (.int 36007) = some (.dat (.int (i * 36007))) := fun i => gmul_r i _ (by decide)
  have m3 : ∀ i : Int, gMul (.int i) (.int 59) = some (.dat (.int (i * 59))) := fun i => gmul_r i _ (by decide)
  have m4 : ∀ i : Int, gMul (.int i) (.int 27011) = some (.dat (.int (i * 27011))) := fun i => gmul_r i _ (by decide)
  have m5 : ∀ i : Int, gMul (.int 6007) (.int i) = some (.dat (.int (6007 * i))) := fun i => gmul_l _ i (by decide)
  have m6 : ∀ i : Int, gMul (.int 9001) (.int i) = some (.dat (.int (9001 * i))) := fun i => gmul_l _ i (by decide)
  have n1 : ∀ i : Int, gMod (.int i) (.int 1000000007) = some (.dat (.int (i.fmod 1000000007))) := fun i => gmod_n i _ (by decide)
  have n2 : ∀ i : Int, gMod (.int i) (.int 2147483629) = some (.dat (.int (i.fmod 2147483629))) := fun i => gmod_n i _ (by decide)
  have n3 : ∀ i : Int, gMod (.int i) (.int 998244353) = some (.dat (.int (i.fmod 998244353))) := fun i => gmod_n i _ (by decide)
  have pw : gPow (.int 10) (.int 16) = some (.dat (.int 10000000000000000)) := by
    show (if (0 : Int) ≤ 16 ∧ (16 : Int) ≤ 1000000 ∧ (10 : Int).natAbs < 2 ^ 64 then some (Sl.dat (PyData.int ((10 : Int) ^ (16 : Int).toNat))) else none) = _
    rw [if_pos ⟨by decide, by decide, by decide⟩]
    rfl
  obtain ⟨here, e0⟩ : ∃ here : Int, dIf (dTb (dB gLt (dRd 1) (dBu gLen (dCons (dRd 0) dNil)))) (dBu gInt (dCons (dB gIx (dRd 0) (dRd 1)) dNil)) (dB gAdd (dB gMul (dC (PyData.int 6007)) (dRd 1)) (dC (PyData.int 41))) [.dat (LL ns), .dat (.int turn), .un, .un, .un] none = .ok (.dat (.int here)) none := by
    by_cases c : (turn : Int) < ns.length
    · obtain ⟨x, hx⟩ := get_lt (l := ns) (i := turn) (by omega)
      refine ⟨x, ?_⟩
      simp only [dIf, dTb, dB, dRd, dBu, dCons, dNil, List.getElem?_cons_zero, List.getElem?_cons_succ, Out.bind_ok, gLen_lst, List.length_map, opt_some, un2_dd, gLt, decide_eq_true c, isB, optB_some, if_true, gIx, at_nat ns turn x hx, Option.map_some, gInt]
    · refine ⟨6007 * turn + 41, ?_⟩
      simp only [dIf, dTb, dB, dRd, dBu, dCons, dNil, dC, List.getElem?_cons_zero, List.getElem?_cons_succ, Out.bind_ok, gLen_lst, List.length_map, opt_some, un2_dd, gLt, decide_eq_false c, isB, optB_some, Bool.false_eq_true, if_false, m5, gAdd]
  let B : DS := dSeq (dSet 3 (dB gMod (dBu gInt (dCons (dB gAdd (dB gAdd (dB gMul (dRd 3) (dC (PyData.int 48271))) (dB gMul (dB gMod (dBu gInt (dCons (dRd 4) dNil)) (dC (PyData.int 1000000007))) (dC (PyData.int 36007)))) (dC (PyData.int 23))) dNil)) (dC (PyData.int 2147483629)))) dNext
  obtain ⟨ρ2, h1, m, z, h2⟩ := forGo_at (g := gdName 4) (tb := B) (sp := none) PyData.int (fun j ρ => ∃ (m : Int) (z : Sl), ρ = [.dat (LL ns), .dat (.int turn), .dat (.int here), .dat (.int m), z]) (ns.take 9) 0 (ρ := [.dat (LL ns), .dat (.int turn), .dat (.int here), .dat (.int (71011 + 9001 * turn)), .un]) (fun k ρ x hx ⟨m, z, e⟩ => by
    subst e
    refine ⟨_, [.dat (LL ns), .dat (.int turn), .dat (.int here), .dat (.int ((m * 48271 + x.fmod 1000000007 * 36007 + 23).fmod 2147483629)), .dat (.int x)], rfl, ?_, _, _, rfl⟩
    show dSeq _ _ _ _ = _
    simp only [dSeq, dSet, dB, dBu, dCons, dNil, dRd, dC, List.set, List.getElem?_cons_zero, List.getElem?_cons_succ, Out.bind_ok, opt_some, un2_dd, m1, gInt, n1, m2, gAdd, n2, dNext]) ⟨_, _, rfl⟩
  subst h2
  have ec : cutD (IL ns) none (some 9) = (ns.take 9).map PyData.int := by
    have := cut_take (IL ns) 9
    rw [show ((9 : Nat) : Int) = 9 from rfl] at this
    rw [this, IL, List.map_take]
  have ef : dFor (dItems (dSl (dRd 0) dP0 (dP1 (dC (PyData.int 9))))) (gdName 4) B [.dat (LL ns), .dat (.int turn), .dat (.int here), .dat (.int (71011 + 9001 * turn)), .un] none = .ok (.nx [.dat (LL ns), .dat (.int turn), .dat (.int here), .dat (.int m), z]) none := by
    simp only [dFor, dItems, dSl, dRd, dP0, dP1, dC, List.getElem?_cons_zero, Out.bind_ok, Sl.d?, Option.bind_some, gSl, ec, opt_some, seqD, optL]
    exact h1
  obtain ⟨a, ea⟩ : ∃ a : Int, ∀ m z, dIf (dOrT (dTb (dB gLt (dRd 2) (dC (PyData.int 0)))) (dTb (dB gGe (dRd 2) (dB gPow (dC (PyData.int 10)) (dC (PyData.int 16)))))) (dBu gAbs (dCons (dRd 2) dNil)) (dC (PyData.int 0)) [.dat (LL ns), .dat (.int turn), .dat (.int here), .dat (.int m), z] none = .ok (.dat (.int a)) none := by
    by_cases c : here < 0
    · refine ⟨if here < 0 then -here else here, fun m z => ?_⟩
      simp only [dIf, dOrT, dTb, dB, dRd, dC, dBu, dCons, dNil, List.getElem?_cons_zero, List.getElem?_cons_succ, Out.bind_ok, un2_dd, gLt, decide_eq_true c, opt_some, isB, optB_some, if_true, gAbs]
    · by_cases c2 : (10000000000000000 : Int) ≤ here
      · refine ⟨if here < 0 then -here else here, fun m z => ?_⟩
        simp only [dIf, dOrT, dTb, dB, dRd, dC, dBu, dCons, dNil, List.getElem?_cons_zero, List.getElem?_cons_succ, Out.bind_ok, un2_dd, gLt, decide_eq_false c, opt_some, isB, optB_some, Bool.false_eq_true, if_false, pw, gGe, decide_eq_true c2, if_true, gAbs]
      · refine ⟨0, fun m z => ?_⟩
        simp only [dIf, dOrT, dTb, dB, dRd, dC, dBu, dCons, dNil, List.getElem?_cons_zero, List.getElem?_cons_succ, Out.bind_ok, un2_dd, gLt, decide_eq_false c, opt_some, isB, optB_some, Bool.false_eq_true, if_false, pw, gGe, decide_eq_false c2]
  refine ⟨a, (m * 59 + here.fmod 998244353 * 27011).fmod 2147483629, 0, ?_⟩
  unfold m__law_spring mirOf t__law_spring
  have c3 : ([.int a, .int ((m * 59 + here.fmod 998244353 * 27011).fmod 2147483629), .int 0] : List D).length ≤ sizeLine := by rw [hs]; simp
  simp only [dSeq, List.replicate, List.cons_append, List.nil_append]
  rw [dSet, e0]
  simp only [Out.bind_ok, List.set, dSet, dB, dRd, dC, List.getElem?_cons_zero, List.getElem?_cons_succ, un2_dd, m6, opt_some, gAdd]
  show (Out.bind (Out.bind (dFor _ _ B _ _) _) _) = _
  rw [ef]
  simp only [Out.bind_ok, dBu, dCons, dNil, dRd, dC, List.getElem?_cons_zero, List.getElem?_cons_succ, opt_some, un2_dd, m3, gInt, n3, m4, gAdd, n2, List.set, dFrz, dRet, dLst, dB, ea, dVar, toDs, Sl.d?, Option.bind_some, if_pos c3]
end Dn
namespace Dn
open PySem PySem.Spec PyProof.Rows L2
/-! ### texts -/
structure Sz (R : List (List Int)) : Prop where
  wt : PyData.weightAll (RT R) ≤ 10000
  lo : ∀ r ∈ R, ∀ x ∈ r, x.natAbs < 1000
theorem short_int {x : Int} (h : x.natAbs < 1000) : PyData.leavesShort 13 (.int x) = true ∧ PyData.showable (.int x) = true := by
  constructor
  · rw [PyData.leavesShort, decide_eq_true_eq, PyData.shown]
    have h1 := int_text_length_le10 (a := x) (k := 12) (by omega) (by omega)
    rw [PySem.ofString_length]
    omega
  · rw [PyData.showable, decide_eq_true_eq]
    have : x.natAbs.log2 < 10 := by
      rcases Nat.eq_zero_or_pos x.natAbs with e | e
      · rw [e]; decide
      · exact (Nat.log2_lt (by omega)).mpr (by omega)
    omega
theorem short_IL : ∀ {ns : List Int}, (∀ x ∈ ns, x.natAbs < 1000) → PyData.leavesShortAll 13 (IL ns) = true ∧ PyData.showableAll (IL ns) = true
  | [], _ => by simp [IL, PyData.leavesShortAll, PyData.showableAll]
  | x :: xs, h => by
    obtain ⟨h1, h2⟩ := short_int (h x List.mem_cons_self)
    obtain ⟨h3, h4⟩ := short_IL (ns := xs) fun y hy => h y (List.mem_cons_of_mem _ hy)
    simp only [IL, List.map_cons, PyData.leavesShortAll, PyData.showableAll, Bool.and_eq_true]
    exact ⟨⟨h1, h3⟩, h2, h4⟩
theorem short_RT : ∀ {R : List (List Int)}, (∀ r ∈ R, ∀ x ∈ r, x.natAbs < 1000) → PyData.leavesShortAll 13 (RT R) = true ∧ PyData.showableAll (RT R) = true ∧ PyData.hasDictAll (RT R) = false
  | [], _ => by simp [PyData.leavesShortAll, PyData.showableAll, PyData.hasDictAll]
  | r :: R, h => by
    obtain ⟨h1, h2⟩ := short_IL (h r List.mem_cons_self)
    obtain ⟨h3, h4, h5⟩ := short_RT (R := R) fun y hy => h y (List.mem_cons_of_mem _ hy)
    simp only [List.map_cons, PyData.leavesShortAll, PyData.showableAll, PyData.hasDictAll, PyData.leavesShort, PyData.showable, PyData.hasDict, hasDict_IL, h1, h2, Bool.true_and, Bool.false_or]
    exact ⟨h3, h4, h5⟩
theorem rep2 {R1 R2 : List (List Int)} (h1 : Sz R1) (h2 : Sz R2) : gRepr [.ol [.tuple (RT R1), .tuple (RT R2)]] = some (.dat (.str (PyData.list [.tuple (RT R1), .tuple (RT R2)]).shown)) := by
  obtain ⟨a1, a2, a3⟩ := short_RT h1.lo
  obtain ⟨b1, b2, b3⟩ := short_RT h2.lo
  have d1 := depth_RT R1
  have d2 := depth_RT R2
  have sh : (PyData.list [.tuple (RT R1), .tuple (RT R2)]).shown.length ≤ sizeLine := by
    refine PyData.shown_fits (B := 13) (by omega) (by omega) ?_ ?_
    · simp [PyData.leavesShort, PyData.leavesShortAll, a1, b1]
    · simp only [PyData.weight, PyData.weightAll]
      have := h1.wt
      have := h2.wt
      omega
  have hsh : (PyData.list [.tuple (RT R1), .tuple (RT R2)]).showable = true := by simp [PyData.showable, PyData.showableAll, a2, b2]
  have hd : (PyData.list [.tuple (RT R1), .tuple (RT R2)]).hasDict = false := by simp [PyData.hasDict, PyData.hasDictAll, a3, b3]
  have hdp : (PyData.list [.tuple (RT R1), .tuple (RT R2)]).depth ≤ 64 := by
    simp only [PyData.depth, PyData.depthAll]
    omega
  show ((Sl.ol [.tuple (RT R1), .tuple (RT R2)]).d?.bind fun d => if isSq d = true ∧ d.showable = true ∧ d.hasDict = false ∧ d.depth ≤ 64 ∧ d.shown.length ≤ sizeLine then some (Sl.dat (.str d.shown)) else none) = _
  rw [d?_ol, Option.bind_some, if_pos ⟨rfl, hsh, hd, hdp, sh⟩]
theorem repI {a b : Int} (h1 : a.natAbs < 1000) (h2 : b.natAbs < 1000) : gRepr [.ol [.int a, .int b]] = some (.dat (.str (PyData.list [.int a, .int b]).shown)) := by
  obtain ⟨a1, a2⟩ := short_int h1
  obtain ⟨b1, b2⟩ := short_int h2
  have lg : ∀ x : Int, x.natAbs < 1000 → PyData.weight (.int x) ≤ 11 := fun x hx => by
    rw [PyData.weight]
    split
    · omega
    · have : x.natAbs.log2 < 10 := by
        rcases Nat.eq_zero_or_pos x.natAbs with e | e
        · rw [e]; decide
        · exact (Nat.log2_lt (by omega)).mpr (by omega)
      omega
  have w1 := lg a h1
  have w2 := lg b h2
  have sh : (PyData.list [.int a, .int b]).shown.length ≤ sizeLine := by
    refine PyData.shown_fits (B := 13) (by omega) (by omega) ?_ ?_
    · rw [PyData.leavesShort, PyData.leavesShortAll, PyData.leavesShortAll, PyData.leavesShortAll, a1, b1]; rfl
    · rw [PyData.weight, PyData.weightAll, PyData.weightAll, PyData.weightAll]
      omega
  have hsh : (PyData.list [.int a, .int b]).showable = true := by
    rw [PyData.showable, PyData.showableAll, PyData.showableAll, PyData.showableAll, a2, b2]; rfl
  have hd : (PyData.list [.int a, .int b]).hasDict = false := by simp [PyData.hasDict, PyData.hasDictAll]
  have hdp : (PyData.list [.int a, .int b]).depth ≤ 64 := by simp [PyData.depth, PyData.depthAll]
  show ((Sl.ol [.int a, .int b]).d?.bind fun d => if isSq d = true ∧ d.showable = true ∧ d.hasDict = false ∧ d.depth ≤ 64 ∧ d.shown.length ≤ sizeLine then some (Sl.dat (.str d.shown)) else none) = _
  rw [d?_ol, Option.bind_some, if_pos ⟨rfl, hsh, hd, hdp, sh⟩]
theorem ne_str (x : Str) : gNe (.str x) (.str x) = some (.dat (.bool false)) := by
  unfold gNe strs?
  simp
theorem eq_str_ (x : Str) : gEq (.str x) (.str x) = some (.dat (.bool true)) := by
  unfold gEq strs?
  simp
/-! ### what is reckoned -/
def rowB (many : Nat) (w : Int) (R : List (List Int)) (r : List Int) : Bool :=
  R.any (fun x => decide (x = r.reverse.map fun m => w - m)) && !(decide (2 < many) && decide (r.reverse.map (fun m => w - m) = r)) && freshF [] (lensI r) && decide ((gapsI r).sum = w) && incB r && decide (r.length ≤ 60)
def szB (R : List (List Int)) : Bool := decide (PyData.weightAll (R.map TL) ≤ 10000) && R.all fun r => r.all fun x => decide (x.natAbs < 1000)
def okB (many : Nat) (w : Int) : Bool := decide (ownF many w = rulP many w) && (let R := rulP many w; szB R && (R.take 6 ++ R.drop (R.length - 2)).all (rowB many w R))
def leastB (few L : Nat) : Bool := ((List.range L).all fun w => (ownF few w).isEmpty) && ((List.range (L - few * (few - 1) / 2)).all fun d => (rulP few ((few * (few - 1) / 2 + d : Nat) : Int)).isEmpty) && decide (ownF few L = rulP few L) && !(rulP few L).isEmpty && szB (rulP few L) && decide (few * (few - 1) / 2 ≤ L) && (decide (L = 0) || (rulP few ((L - 1 : Nat) : Int)).isEmpty)
end Dn
namespace Dn
open PySem PySem.Spec PyProof.Rows L2
def P0 : DS := (dPar 1 2 (dCons (dB gAdd (dC (PyData.int 1)) (dCall m__law_draw 2 (dCons (dAg 0) (dCons (dC (PyData.int 5)) dNil)))) (dCons (dB gAdd (dC (PyData.int 1)) (dCall m__law_draw 2 (dCons (dAg 0) (dCons (dC (PyData.int 4)) dNil)))) dNil)))
def P1 : DS := (dSet 3 (dCall m__law_draw 2 (dCons (dAg 0) (dCons (dC (PyData.int 14)) dNil))))
def P2 : DS := (dIfS (dTb (dB gEq (dCall m__law_draw 2 (dCons (dAg 0) (dCons (dC (PyData.int 24)) dNil))) (dC (PyData.int 0)))) (dSeq (dAsg (gdTup 2 (gdCons (gdName 1) (gdCons (gdName 3) gdNil))) (dTup (dCons (dC (PyData.int 6)) (dCons (dB gAdd (dC (PyData.int 17)) (dCall m__law_draw 2 (dCons (dAg 0) (dCons (dC (PyData.int 2)) dNil)))) dNil)))) dNext) dNext)
def P3 : DS := (dIfS (dTb (dB gEq (dCall m__law_draw 2 (dCons (dAg 0) (dCons (dC (PyData.int 6)) dNil))) (dC (PyData.int 0)))) (dSeq (dSet 2 (dB gAdd (dC (PyData.int 5)) (dIf (dTb (dB gEq (dCall m__law_draw 2 (dCons (dAg 0) (dCons (dC (PyData.int 9)) dNil))) (dC (PyData.int 0)))) (dC (PyData.int 1)) (dC (PyData.int 0))))) dNext) dNext)
def P6 : DS := (dSet 4 (dBu gTuple (dCons (dCall m__law_found 2 (dCons (dAg 1) (dCons (dAg 3) dNil))) dNil)))
def P9 : DS := (dSet 5 (dCall m_rulers_of 2 (dCons (dAg 1) (dCons (dAg 3) dNil))))
def P14 : DS := (dIfS (dTb (dB gNe (dBu gRepr (dCons (dLst (dCons (dVar 5) (dCons (dCallK m_rulers_of 2 0 (["length", "many"] : List Str).length [1, 0] dNil (dCons (dAg 3) (dCons (dAg 1) dNil))) dNil))) dNil)) (dBu gRepr (dCons (dLst (dCons (dVar 4) (dCons (dVar 4) dNil))) dNil)))) (dRet (dC (PyData.bool false))) dNext)
def I15 : DI := (dItems (dB gAdd (dSl (dRd 5) dP0 (dP1 (dC (PyData.int 6)))) (dSl (dRd 5) (dP1 (dNeg (dC (PyData.int 2)))) dP0)))
def B15 : DS := (dSeq (dSet 7 (dBu gTuple (dCons (dLc (dItems (dRev (dRd 6))) (gdName 8) dYes (dB gSub (dRd 3) (dRd 8)) [8]) dNil))) (dSeq (dIfS (dOrT (dTb (dB2 (gInS true) (dRd 7) (dRd 5))) (dOrT (dAndT (dTb (dB gGt (dRd 1) (dC (PyData.int 2)))) (dTb (dB gEq (dRd 7) (dRd 6)))) (dOrT (dNotT (dTru (dCall m_is_ruler 1 (dCons (dAg 6) dNil)))) (dTb (dB gNe (dBu gSum (dCons (dCall m_gaps_of 1 (dCons (dAg 6) dNil)) dNil)) (dRd 3)))))) (dRet (dC (PyData.bool false))) dNext) dNext))
def P15 : DS := (dFor I15 (gdName 6) B15)
def P17 : DS := (dAsg (gdTup 2 (gdCons (gdName 9) (gdCons (gdName 10) gdNil))) (dCall m__law_shortest 1 (dCons (dAg 2) dNil)))
def P19 : DS := (dIfS (dTb (dB gNe (dBu gRepr (dCons (dLst (dCons (dCall m_shortest_length 1 (dCons (dAg 2) dNil)) (dCons (dCallK m_shortest_length 1 0 (["many"] : List Str).length [0] dNil (dCons (dAg 2) dNil)) dNil))) dNil)) (dBu gRepr (dCons (dLst (dCons (dVar 9) (dCons (dVar 9) dNil))) dNil)))) (dRet (dC (PyData.bool false))) dNext)
def P20 : DS := (dSet 11 (dBu gTuple (dCons (dRd 10) dNil)))
def P23 : DS := (dIfS (dTb (dB gNe (dBu gRepr (dCons (dLst (dCons (dCall m_shortest_rulers 1 (dCons (dAg 2) dNil)) (dCons (dCallK m_shortest_rulers 1 0 (["many"] : List Str).length [0] dNil (dCons (dAg 2) dNil)) dNil))) dNil)) (dBu gRepr (dCons (dLst (dCons (dVar 11) (dCons (dVar 11) dNil))) dNil)))) (dRet (dC (PyData.bool false))) dNext)
def P26 : DS := (dRet (dB gEq (dBu gRepr (dCons (dLst (dCons (dCall m_rulers_of 2 (dCons (dAg 2) (dCons (dAg 9) dNil))) (dCons (dCall m_rulers_of 2 (dCons (dAg 2) (dCons (dBu gMax (dCons (dC (PyData.int 0)) (dCons (dB gSub (dRd 9) (dC (PyData.int 1))) dNil))) dNil))) dNil))) dNil)) (dBu gRepr (dCons (dLst (dCons (dVar 11) (dCons (dIf (dTb (dB gGt (dRd 9) (dC (PyData.int 0)))) (dTup dNil) (dVar 11)) dNil))) dNil))))
def tailR : DS := (dFrz 3 (dFrz 1 (dSeq P6 (dFrz 3 (dFrz 1 (dSeq P9 (dFrz 3 (dFrz 5 (dFrz 1 (dFrz 4 (dSeq P14 (dSeq P15 (dFrz 2 (dSeq P17 (dFrz 2 (dSeq P19 (dSeq P20 (dFrz 2 (dFrz 11 (dSeq P23 (dFrz 2 (dFrz 11 P26))))))))))))))))))))))
theorem right_is : t__law_right = dSeq P0 (dSeq P1 (dSeq P2 (dSeq P3 tailR))) := rfl
theorem seq_nx {t u : DS} {ρ ρ' : Env_} {sp sp' : SpO} (h : t ρ sp = .ok (.nx ρ') sp') : dSeq t u ρ sp = u ρ' sp' := by
  unfold dSeq
  rw [h]
  rfl
theorem frz_dat {i : Nat} {t : DS} {ρ : Env_} {sp : SpO} {d : D} (h : ρ[i]? = some (.dat d)) : dFrz i t ρ sp = t ρ sp := by
  unfold dFrz
  rw [h]
/-- what is reckoned of a number of marks and a spread -/
structure Okd (many : Nat) (w : Int) : Prop where
  m1 : 1 ≤ many
  m6 : many ≤ 6
  w0 : 0 ≤ w
  w18 : w ≤ 18
  own : ownF many w = rulP many w
  sz : Sz (rulP many w)
  rows : ∀ r ∈ (rulP many w).take 6 ++ (rulP many w).drop ((rulP many w).length - 2), rowB many w (rulP many w) r = true
structure Bst (few L : Nat) : Prop where
  least : Least few L
  own : ownF few L = rulP few L
  sz : Sz (rulP few L)
  below : L ≠ 0 → rulP few ((L - 1 : Nat) : Int) = []
theorem eqv_IL : ∀ a b : List Int, PyData.eqvAll (IL a) (IL b) = decide (a = b)
  | [], [] => by simp [IL, PyData.eqvAll]
  | [], y :: b => by simp [IL, PyData.eqvAll]
  | x :: a, [] => by simp [IL, PyData.eqvAll]
  | x :: a, y :: b => by
    have ih := eqv_IL a b
    simp only [IL, List.map_cons, PyData.eqvAll, PyData.eqv]
    rw [show PyData.eqvAll (List.map PyData.int a) (List.map PyData.int b) = decide (a = b) from ih, Bool.eq_iff_iff]
    simp
theorem eqv_TL (a b : List Int) : PyData.eqv (TL a) (TL b) = decide (a = b) := by
  rw [PyData.eqv, eqv_IL]
theorem any_RT (R : List (List Int)) (o : List Int) : (RT R).any (fun z => PyData.eqv z (TL o)) = R.any fun x => decide (x = o) := by
  rw [List.any_map]
  congr 1
  funext x
  exact eqv_TL x o
theorem eq_TL (a b : List Int) : gEq (TL a) (TL b) = some (.dat (.bool (decide (a = b)))) := by
  unfold gEq strs?
  simp only [sh_TL, Bool.and_self, if_true, eqv_TL]
theorem ne_int (i j : Int) : gNe (.int i) (.int j) = some (.dat (.bool (!decide (i = j)))) := by
  unfold gNe strs?
  simp only [sh_int, Bool.and_self, if_true]
  rw [show PyData.eqv (.int i) (.int j) = decide (i = j) by simp only [PyData.eqv]; rfl]
theorem two_le : (2 : Nat) ≤ sizeLine := by rw [sizeLine_eq]; decide
theorem dLst2 {ta tb : DE} {ρ : Env_} {sp : SpO} {a b : D} (h1 : ta ρ sp = .ok (.dat a) sp) (h2 : tb ρ sp = .ok (.dat b) sp) : dLst (dCons ta (dCons tb dNil)) ρ sp = .ok (.ol [a, b]) sp := by
  unfold dLst dCons
  rw [h1, Out.bind_ok, h2]
  show (if ([a, b] : List D).length ≤ sizeLine then Out.ok (Sl.ol [a, b]) sp else .bad) = _
  exact if_pos (show ([a, b] : List D).length ≤ sizeLine from two_le)
theorem dBu1 {g : List Sl → Option Sl} {t : DE} {ρ : Env_} {sp : SpO} {s z : Sl} (h : t ρ sp = .ok s sp) (hg : g [s] = some z) : dBu g (dCons t dNil) ρ sp = .ok z sp := by
  unfold dBu dCons
  rw [h]
  show opt (g [s]) sp = _
  rw [hg]
  rfl
theorem dB_go {g : D → D → Option Sl} {ta tb : DE} {ρ : Env_} {sp : SpO} {x y z : Sl} (h1 : ta ρ sp = .ok x sp) (h2 : tb ρ sp = .ok y sp) (hg : un2 g x y = some z) : dB g ta tb ρ sp = .ok z sp := by
  unfold dB
  rw [h1, Out.bind_ok, h2, Out.bind_ok, hg]
  rfl
theorem dTb_go {t : DE} {ρ : Env_} {sp : SpO} {b : Bool} (h : t ρ sp = .ok (.dat (.bool b)) sp) : dTb t ρ sp = .ok b sp := by
  unfold dTb
  rw [h]
  rfl
theorem dIfS_f {c : DT} {t u : DS} {ρ : Env_} {sp : SpO} (h : c ρ sp = .ok false sp) : dIfS c t u ρ sp = u ρ sp := by
  unfold dIfS
  rw [h]
  rfl
theorem dCall1 {m : Mir} {ta : DE} {ρ : Env_} {sp : SpO} {d : D} (h : ta ρ sp = .ok (.dat d) sp) : dCall m 1 (dCons ta dNil) ρ sp = m [.dat d] sp := by
  unfold dCall dCons
  rw [h]
  rfl
theorem dCall2 {m : Mir} {ta tb : DE} {ρ : Env_} {sp : SpO} {d e : D} (h : ta ρ sp = .ok (.dat d) sp) (h2 : tb ρ sp = .ok (.dat e) sp) : dCall m 2 (dCons ta (dCons tb dNil)) ρ sp = m [.dat d, .dat e] sp := by
  unfold dCall dCons
  rw [h, Out.bind_ok, h2]
  rfl
theorem dCallK2 {m : Mir} {ta tb : DE} {ρ : Env_} {sp : SpO} {d e : D} (h : ta ρ sp = .ok (.dat d) sp) (h2 : tb ρ sp = .ok (.dat e) sp) (k1 k2 : Str) : dCallK m 2 0 ([k1, k2] : List Str).length [1, 0] dNil (dCons ta (dCons tb dNil)) ρ sp = m [.dat e, .dat d] sp := by
  unfold dCallK dCons
  simp only [dNil, Out.bind_ok]
  rw [h, Out.bind_ok, h2]
  rfl
theorem dCallK1 {m : Mir} {ta : DE} {ρ : Env_} {sp : SpO} {d : D} (h : ta ρ sp = .ok (.dat d) sp) (k1 : Str) : dCallK m 1 0 ([k1] : List Str).length [0] dNil (dCons ta dNil) ρ sp = m [.dat d] sp := by
  unfold dCallK dCons
  simp only [dNil, Out.bind_ok]
  rw [h]
  rfl
section
variable {many few L : Nat} {w : Int} (k : Okd many w) (b : Bst few L) (sp : SpO)
include k in
theorem p6 (z4 z5 : Sl) (zs : Env_) : P6 (.spr :: .dat (.int many) :: .dat (.int few) :: .dat (.int w) :: z4 :: zs) sp = .ok (.nx (.spr :: .dat (.int many) :: .dat (.int few) :: .dat (.int w) :: .dat (.tuple (RT (rulP many w))) :: zs)) sp := by
  have e := q__law_found many w sp k.m1 k.m6 k.w0 k.w18
  rw [k.own] at e
  unfold P6
  simp only [dSet, dBu, dCons, dNil, dCall, dAg, List.getElem?_cons_zero, List.getElem?_cons_succ, Out.bind_ok, toAr, Sl.d?, Option.bind_some, List.length_cons, List.length_nil, if_true, e, gTuple, itemsD, Option.map_some, opt_some, List.set]
include k in
theorem p9 (z4 z5 : Sl) (zs : Env_) : P9 (.spr :: .dat (.int many) :: .dat (.int few) :: .dat (.int w) :: z4 :: z5 :: zs) sp = .ok (.nx (.spr :: .dat (.int many) :: .dat (.int few) :: .dat (.int w) :: z4 :: .dat (.tuple (RT (rulP many w))) :: zs)) sp := by
  have e := q_rulers_of many w sp k.m1 k.m6 k.w0 k.w18
  unfold P9
  simp only [dSet, dCons, dNil, dCall, dAg, List.getElem?_cons_zero, List.getElem?_cons_succ, Out.bind_ok, toAr, Sl.d?, Option.bind_some, List.length_cons, List.length_nil, if_true, e, List.set]
include k in
theorem p14 (zs : Env_) : P14 (.spr :: .dat (.int many) :: .dat (.int few) :: .dat (.int w) :: .dat (.tuple (RT (rulP many w))) :: .dat (.tuple (RT (rulP many w))) :: zs) sp = .ok (.nx (.spr :: .dat (.int many) :: .dat (.int few) :: .dat (.int w) :: .dat (.tuple (RT (rulP many w))) :: .dat (.tuple (RT (rulP many w))) :: zs)) sp := by
  have e := q_rulers_of many w sp k.m1 k.m6 k.w0 k.w18
  have r := rep2 k.sz k.sz
  unfold P14
  rw [dIfS_f]
  · rfl
  refine dTb_go (dB_go (dBu1 (dLst2 rfl ((dCallK2 rfl rfl _ _).trans e)) r) (dBu1 (dLst2 rfl rfl) r) ?_)
  rw [un2_dd, ne_str]
include k in
theorem p15 (z6 z7 : Sl) (x0 x2 x4 x8 : Sl) (xs : Env_) : ∃ z6' z7', P15 (x0 :: .dat (.int many) :: x2 :: .dat (.int w) :: x4 :: .dat (.tuple (RT (rulP many w))) :: z6 :: z7 :: x8 :: xs) sp = .ok (.nx (x0 :: .dat (.int many) :: x2 :: .dat (.int w) :: x4 :: .dat (.tuple (RT (rulP many w))) :: z6' :: z7' :: x8 :: xs)) sp := by
  have hs : sizeLine = 16777216 := sizeLine_eq
  generalize hR : rulP many w = R
  have hrows := k.rows
  have hsz := k.sz
  rw [hR] at hrows hsz
  have hlenR : R.length ≤ 10000 := by
    have h1 := hsz.wt
    have : ∀ Q : List (List Int), Q.length ≤ PyData.weightAll (Q.map TL) := fun Q => by
      induction Q with
      | nil => simp
      | cons q Q ih => rw [List.map_cons, PyData.weightAll, List.length_cons]; omega
    have h2 := this R
    exact Nat.le_trans h2 h1
  have step : ∀ r ∈ R.take 6 ++ R.drop (R.length - 2), ∀ (z7 : Sl), B15 (x0 :: .dat (.int many) :: x2 :: .dat (.int w) :: x4 :: .dat (.tuple (RT R)) :: .dat (TL r) :: z7 :: x8 :: xs) sp =
      .ok (.nx (x0 :: .dat (.int many) :: x2 :: .dat (.int w) :: x4 :: .dat (.tuple (RT R)) :: .dat (TL r) :: .dat (TL (r.reverse.map fun m => w - m)) :: x8 :: xs)) sp := fun r hr z7 => by
    have hb := hrows r hr
    unfold rowB at hb
    simp only [Bool.and_eq_true] at hb
    obtain ⟨⟨⟨⟨⟨b1, b2⟩, b3⟩, b4⟩, b5⟩, b6⟩ := hb
    have l60 : r.length ≤ 60 := of_decide_eq_true b6
    have b4' : (gapsI r).sum = w := of_decide_eq_true b4
    have e1 := q_is_ruler r sp b5 l60
    have e2 := q_gaps_of r sp b5 l60
    rw [b3] at e1
    have k1 : lcGo (gdName 8) dYes (dB gSub (dRd 3) (dRd 8)) (x0 :: .dat (.int many) :: x2 :: .dat (.int w) :: x4 :: .dat (.tuple (RT R)) :: .dat (TL r) :: z7 :: .un :: xs) (r.reverse.map PyData.int) [] sp = .ok (IL (r.reverse.map fun m => w - m)) sp := by
      rw [lcGo_all _ (fun m => .int (w - m))]
      · simp only [List.nil_append, IL, List.map_map]; rfl
      · intro a ha acc hacc
        simp [lcOne, gdName, dYes, dB, dRd, gSub, hacc]
      · rw [List.length_nil, List.length_reverse]; omega
    have s1 : dSet 7 (dBu gTuple (dCons (dLc (dItems (dRev (dRd 6))) (gdName 8) dYes (dB gSub (dRd 3) (dRd 8)) [8]) dNil)) (x0 :: .dat (.int many) :: x2 :: .dat (.int w) :: x4 :: .dat (.tuple (RT R)) :: .dat (TL r) :: z7 :: x8 :: xs) sp =
        .ok (.nx (x0 :: .dat (.int many) :: x2 :: .dat (.int w) :: x4 :: .dat (.tuple (RT R)) :: .dat (TL r) :: .dat (TL (r.reverse.map fun m => w - m)) :: x8 :: xs)) sp := by
      have e3 : dLc (dItems (dRev (dRd 6))) (gdName 8) dYes (dB gSub (dRd 3) (dRd 8)) [8] (x0 :: .dat (.int many) :: x2 :: .dat (.int w) :: x4 :: .dat (.tuple (RT R)) :: .dat (TL r) :: z7 :: x8 :: xs) sp = .ok (.ol (IL (r.reverse.map fun m => w - m))) sp := by
        have er : dItems (dRev (dRd 6)) (x0 :: .dat (.int many) :: x2 :: .dat (.int w) :: x4 :: .dat (.tuple (RT R)) :: .dat (TL r) :: z7 :: x8 :: xs) sp = .ok (r.reverse.map PyData.int) sp := by
          show Out.ok (IL r).reverse sp = _
          rw [IL, List.map_reverse]
        unfold dLc
        rw [er, Out.bind_ok]
        show Out.bind (lcGo (gdName 8) dYes (dB gSub (dRd 3) (dRd 8)) (x0 :: .dat (.int many) :: x2 :: .dat (.int w) :: x4 :: .dat (.tuple (RT R)) :: .dat (TL r) :: z7 :: .un :: xs) (r.reverse.map PyData.int) [] sp) _ = _
        rw [k1]
        rfl
      unfold dSet
      rw [dBu1 (z := .dat (TL (r.reverse.map fun m => w - m))) e3 rfl]
      rfl
    unfold B15
    rw [seq_nx s1]
    generalize ho : (r.reverse.map fun m => w - m) = o at *
    rw [seq_nx (ρ' := x0 :: .dat (.int many) :: x2 :: .dat (.int w) :: x4 :: .dat (.tuple (RT R)) :: .dat (TL r) :: .dat (TL o) :: x8 :: xs) (sp' := sp)]
    · rfl
    rw [dIfS_f]
    · rfl
    have c1 : dTb (dB2 (gInS true) (dRd 7) (dRd 5)) (x0 :: .dat (.int many) :: x2 :: .dat (.int w) :: x4 :: .dat (.tuple (RT R)) :: .dat (TL r) :: .dat (TL o) :: x8 :: xs) sp = .ok false sp := by
      refine dTb_go ?_
      show opt (un2 gNotIn (.dat (TL o)) (.dat (.tuple (RT R)))) sp = _
      rw [un2_dd]
      unfold gNotIn
      simp only [sh_TL, sh_tup, Bool.and_self, if_true]
      rw [any_RT, b1]
      rfl
    have c2 : dAndT (dTb (dB gGt (dRd 1) (dC (PyData.int 2)))) (dTb (dB gEq (dRd 7) (dRd 6))) (x0 :: .dat (.int many) :: x2 :: .dat (.int w) :: x4 :: .dat (.tuple (RT R)) :: .dat (TL r) :: .dat (TL o) :: x8 :: xs) sp = .ok false sp := by
      unfold dAndT
      rw [dTb_go (b := decide ((2 : Int) < many)) rfl, Out.bind_ok]
      by_cases c : (2 : Int) < many
      · rw [decide_eq_true c, if_pos rfl]
        have c' : 2 < many := by omega
        rw [decide_eq_true c', Bool.true_and] at b2
        refine dTb_go (dB_go rfl rfl ?_)
        rw [un2_dd, eq_TL]
        cases q : decide (o = r) with
        | true => rw [q] at b2; cases b2
        | false => rfl
      · rw [decide_eq_false c]
        rfl
    have c3 : dNotT (dTru (dCall m_is_ruler 1 (dCons (dAg 6) dNil))) (x0 :: .dat (.int many) :: x2 :: .dat (.int w) :: x4 :: .dat (.tuple (RT R)) :: .dat (TL r) :: .dat (TL o) :: x8 :: xs) sp = .ok false sp := by
      unfold dNotT dTru
      rw [dCall1 rfl, e1]
      rfl
    have c4 : dTb (dB gNe (dBu gSum (dCons (dCall m_gaps_of 1 (dCons (dAg 6) dNil)) dNil)) (dRd 3)) (x0 :: .dat (.int many) :: x2 :: .dat (.int w) :: x4 :: .dat (.tuple (RT R)) :: .dat (TL r) :: .dat (TL o) :: x8 :: xs) sp = .ok false sp := by
      have gs : gSum [.dat (TL (gapsI r))] = some (.dat (.int w)) := by
        show ((itemsD (.dat (TL (gapsI r)))).bind fun ds => (ints? ds).map fun ns => Sl.dat (.int ns.sum)) = _
        show ((ints? (IL (gapsI r))).map fun ns => Sl.dat (.int ns.sum)) = _
        rw [ints?_map, Option.map_some, b4']
      refine dTb_go (dB_go (dBu1 ((dCall1 rfl).trans e2) gs) rfl ?_)
      rw [un2_dd, ne_int]
      simp
    unfold dOrT
    rw [c1, Out.bind_ok, if_neg Bool.false_ne_true, c2, Out.bind_ok, if_neg Bool.false_ne_true, c3, Out.bind_ok, if_neg Bool.false_ne_true, c4]
  obtain ⟨ρ2, h1, z6', z7', h2⟩ := forGo_at (g := gdName 6) (tb := B15) (sp := sp) TL (fun j ρ => ∃ z6 z7, ρ = x0 :: .dat (.int many) :: x2 :: .dat (.int w) :: x4 :: .dat (.tuple (RT R)) :: z6 :: z7 :: x8 :: xs) (R.take 6 ++ R.drop (R.length - 2)) 0
    (ρ := x0 :: .dat (.int many) :: x2 :: .dat (.int w) :: x4 :: .dat (.tuple (RT R)) :: z6 :: z7 :: x8 :: xs) (fun k ρ r hr ⟨z6, z7, e⟩ => by
      subst e
      exact ⟨_, _, rfl, step r (List.mem_of_getElem? hr) z7, _, _, rfl⟩) ⟨_, _, rfl⟩
  subst h2
  refine ⟨z6', z7', ?_⟩
  have i1 : I15 (x0 :: .dat (.int many) :: x2 :: .dat (.int w) :: x4 :: .dat (.tuple (RT R)) :: z6 :: z7 :: x8 :: xs) sp = .ok ((R.take 6 ++ R.drop (R.length - 2)).map TL) sp := by
    have t1 : cutD (RT R) none (some 6) = (R.take 6).map TL := by
      have := cut_take (RT R) 6
      rw [show ((6 : Nat) : Int) = 6 from rfl] at this
      rw [this, List.map_take]
    have t2 : cutD (RT R) (some (-2)) none = (R.drop (R.length - 2)).map TL := by
      unfold cutD
      have e : HT.sIx (RT R).length 0 (some (-2)) = R.length - 2 := by
        simp [HT.sIx]; omega
      rw [e, HT.sIx_none, List.take_of_length_le (by rw [List.length_drop]; omega), List.map_drop]
    have a1 : dSl (dRd 5) dP0 (dP1 (dC (PyData.int 6))) (x0 :: .dat (.int many) :: x2 :: .dat (.int w) :: x4 :: .dat (.tuple (RT R)) :: z6 :: z7 :: x8 :: xs) sp = .ok (.dat (.tuple ((R.take 6).map TL))) sp := by
      show Out.ok (Sl.dat (.tuple (cutD (RT R) none (some 6)))) sp = _
      rw [t1]
    have a2 : dSl (dRd 5) (dP1 (dNeg (dC (PyData.int 2)))) dP0 (x0 :: .dat (.int many) :: x2 :: .dat (.int w) :: x4 :: .dat (.tuple (RT R)) :: z6 :: z7 :: x8 :: xs) sp = .ok (.dat (.tuple ((R.drop (R.length - 2)).map TL))) sp := by
      show Out.ok (Sl.dat (.tuple (cutD (RT R) (some (-2)) none))) sp = _
      rw [t2]
    have c : ((R.take 6).map TL).length + ((R.drop (R.length - 2)).map TL).length ≤ sizeLine := by
      rw [hs, List.length_map, List.length_map, List.length_take, List.length_drop]; omega
    unfold I15 dItems
    rw [dB_go (z := .dat (.tuple ((R.take 6).map TL ++ (R.drop (R.length - 2)).map TL))) a1 a2 (by
      rw [un2_dd]
      exact if_pos c)]
    rw [Out.bind_ok, List.map_append]
    rfl
  unfold P15 dFor
  rw [i1, Out.bind_ok]
  exact h1
include b in
theorem p17 (z9 z10 : Sl) (x0 x1 x3 x4 x5 x6 x7 x8 x11 : Sl) : P17 [x0, x1, .dat (.int few), x3, x4, x5, x6, x7, x8, z9, z10, x11] sp = .ok (.nx [x0, x1, .dat (.int few), x3, x4, x5, x6, x7, x8, .dat (.int L), .dat (.list (RT (rulP few L))), x11]) sp := by
  have e := q__law_shortest b.least sp
  rw [b.own] at e
  unfold P17 dAsg
  rw [dCall1 rfl, e]
  rfl
include b in
theorem L_small : (L : Int).natAbs < 1000 := by have := b.least.l18; omega
include b in
theorem p19 (x0 x1 x3 x4 x5 x6 x7 x8 x10 x11 : Sl) : P19 [x0, x1, .dat (.int few), x3, x4, x5, x6, x7, x8, .dat (.int L), x10, x11] sp = .ok (.nx [x0, x1, .dat (.int few), x3, x4, x5, x6, x7, x8, .dat (.int L), x10, x11]) sp := by
  have e := q_shortest_length b.least sp
  have r := repI (L_small b) (L_small b)
  unfold P19
  rw [dIfS_f]
  · rfl
  refine dTb_go (dB_go (dBu1 (dLst2 ((dCall1 rfl).trans e) ((dCallK1 rfl _).trans e)) r) (dBu1 (dLst2 rfl rfl) r) ?_)
  rw [un2_dd, ne_str]
theorem p20 (x0 x1 x2 x3 x4 x5 x6 x7 x8 x9 z11 : Sl) (R : List (List Int)) : P20 [x0, x1, x2, x3, x4, x5, x6, x7, x8, x9, .dat (.list (RT R)), z11] sp = .ok (.nx [x0, x1, x2, x3, x4, x5, x6, x7, x8, x9, .dat (.list (RT R)), .dat (.tuple (RT R))]) sp := by
  unfold P20 dSet
  rw [dBu1 (z := .dat (.tuple (RT R))) rfl rfl]
  rfl
include b in
theorem p23 (x0 x1 x3 x4 x5 x6 x7 x8 x9 x10 : Sl) : P23 [x0, x1, .dat (.int few), x3, x4, x5, x6, x7, x8, x9, x10, .dat (.tuple (RT (rulP few L)))] sp = .ok (.nx [x0, x1, .dat (.int few), x3, x4, x5, x6, x7, x8, x9, x10, .dat (.tuple (RT (rulP few L)))]) sp := by
  have e := q_shortest_rulers b.least sp
  have r := rep2 b.sz b.sz
  unfold P23
  rw [dIfS_f]
  · rfl
  refine dTb_go (dB_go (dBu1 (dLst2 ((dCall1 rfl).trans e) ((dCallK1 rfl _).trans e)) r) (dBu1 (dLst2 rfl rfl) r) ?_)
  rw [un2_dd, ne_str]
include b in
theorem p26 (x0 x1 x3 x4 x5 x6 x7 x8 x10 : Sl) : P26 [x0, x1, .dat (.int few), x3, x4, x5, x6, x7, x8, .dat (.int L), x10, .dat (.tuple (RT (rulP few L)))] sp = .ok (.rt (.dat (.bool true))) sp := by
  have l18 := b.least.l18
  have e := q_rulers_of few L sp b.least.f1 b.least.f6 (by omega) (by omega)
  have s0 : Sz [] := ⟨by simp [PyData.weightAll], fun r h => by simp at h⟩
  by_cases c : L = 0
  · subst c
    have r := rep2 b.sz b.sz
    have e2 : dCall m_rulers_of 2 (dCons (dAg 2) (dCons (dBu gMax (dCons (dC (PyData.int 0)) (dCons (dB gSub (dRd 9) (dC (PyData.int 1))) dNil))) dNil)) [x0, x1, .dat (.int few), x3, x4, x5, x6, x7, x8, .dat (.int ((0 : Nat) : Int)), x10, .dat (.tuple (RT (rulP few ((0 : Nat) : Int))))] sp = .ok (.dat (.tuple (RT (rulP few ((0 : Nat) : Int))))) sp := (dCall2 rfl (by rfl)).trans e
    unfold P26 dRet
    rw [dB_go (z := .dat (.bool true)) (dBu1 (dLst2 ((dCall2 rfl rfl).trans e) e2) r) (dBu1 (dLst2 rfl (by rfl)) r) (by rw [un2_dd, eq_str_])]
    rfl
  · have hb := b.below c
    have hc : ((L : Int) - 1) = ((L - 1 : Nat) : Int) := by omega
    have hm : gMax [.dat (.int 0), .dat (.int ((L : Int) - 1))] = some (.dat (.int ((L - 1 : Nat) : Int))) := by
      show some (Sl.dat (.int (if ((L : Int) - 1) > 0 then (L : Int) - 1 else 0))) = _
      split
      · rw [hc]
      · congr 3; omega
    have e3 := q_rulers_of few ((L - 1 : Nat) : Int) sp b.least.f1 b.least.f6 (by omega) (by omega)
    rw [hb] at e3
    have r := rep2 b.sz s0
    have ea : ∀ ρ : Env_, ρ[9]? = some (.dat (.int L)) → dBu gMax (dCons (dC (PyData.int 0)) (dCons (dB gSub (dRd 9) (dC (PyData.int 1))) dNil)) ρ sp = .ok (.dat (.int ((L - 1 : Nat) : Int))) sp := fun ρ hρ => by
      have e9 : dRd 9 ρ sp = .ok (.dat (.int L)) sp := by unfold dRd; rw [hρ]
      have e10 : dB gSub (dRd 9) (dC (PyData.int 1)) ρ sp = .ok (.dat (.int ((L : Int) - 1))) sp := dB_go e9 rfl rfl
      unfold dBu dCons
      rw [show dC (PyData.int 0) ρ sp = .ok (.dat (.int 0)) sp from rfl, Out.bind_ok, e10]
      show opt (gMax [.dat (.int 0), .dat (.int ((L : Int) - 1))]) sp = _
      rw [hm]
      rfl
    have ei : ∀ ρ : Env_, ρ[9]? = some (.dat (.int L)) → dIf (dTb (dB gGt (dRd 9) (dC (PyData.int 0)))) (dTup dNil) (dVar 11) ρ sp = .ok (.dat (.tuple [])) sp := fun ρ hρ => by
      have e9 : dRd 9 ρ sp = .ok (.dat (.int L)) sp := by unfold dRd; rw [hρ]
      unfold dIf
      rw [dTb_go (b := true) (dB_go e9 rfl (by
        show some (Sl.dat (.bool (decide ((0 : Int) < L)))) = _
        rw [decide_eq_true (by omega)]))]
      show dTup dNil ρ sp = _
      show (if ([] : List D).length ≤ sizeLine then Out.ok (Sl.dat (.tuple [])) sp else .bad) = _
      exact if_pos (Nat.zero_le _)
    unfold P26 dRet
    rw [dB_go (z := .dat (.bool true)) (dBu1 (dLst2 ((dCall2 rfl rfl).trans e) ((dCall2 rfl (ea _ rfl)).trans e3)) r) (dBu1 (dLst2 rfl (ei _ rfl)) r) (by rw [un2_dd, eq_str_])]
    rfl
end
end Dn
namespace Dn
open PySem PySem.Spec PyProof.Rows L2
theorem ok_small : ((List.range 5).all fun m => (List.range 14).all fun w => okB (m + 1) w) = true := by decide +kernel
theorem ok_617 : okB 6 17 = true := by decide +kernel
theorem ok_618 : okB 6 18 = true := by decide +kernel
theorem least1 : leastB 1 0 = true := by decide +kernel
theorem least2 : leastB 2 1 = true := by decide +kernel
theorem least3 : leastB 3 3 = true := by decide +kernel
theorem least4 : leastB 4 6 = true := by decide +kernel
theorem least5 : leastB 5 11 = true := by decide +kernel
theorem least6 : leastB 6 17 = true := by decide +kernel
end Dn
namespace Dn
open PySem PySem.Spec PyProof.Rows L2
/-! ### what is reckoned, as facts -/
theorem sz_of {R : List (List Int)} (h : szB R = true) : Sz R := by
  unfold szB at h
  rw [Bool.and_eq_true, decide_eq_true_eq] at h
  refine ⟨h.1, fun r hr x hx => ?_⟩
  exact of_decide_eq_true (List.all_eq_true.mp (List.all_eq_true.mp h.2 r hr) x hx)
theorem okd_of {many : Nat} {w : Int} (h1 : 1 ≤ many) (h2 : many ≤ 6) (h3 : 0 ≤ w) (h4 : w ≤ 18) (h : okB many w = true) : Okd many w := by
  unfold okB at h
  rw [Bool.and_eq_true, decide_eq_true_eq] at h
  obtain ⟨ho, h⟩ := h
  rw [Bool.and_eq_true] at h
  exact ⟨h1, h2, h3, h4, ho, sz_of h.1, fun r hr => List.all_eq_true.mp h.2 r hr⟩
theorem emp {α : Type} {l : List α} (h : l.isEmpty = true) : l = [] := by
  cases l with
  | nil => rfl
  | cons _ _ => cases h
theorem bst_of {few L : Nat} (h1 : 1 ≤ few) (h2 : few ≤ 6) (h3 : L ≤ 17) (h : leastB few L = true) : Bst few L := by
  unfold leastB at h
  simp only [Bool.and_eq_true] at h
  obtain ⟨⟨⟨⟨⟨⟨a1, a2⟩, a3⟩, a4⟩, a5⟩, a6⟩, a7⟩ := h
  have own : ownF few L = rulP few L := of_decide_eq_true a3
  have s0 : few * (few - 1) / 2 ≤ L := of_decide_eq_true a6
  have ne : rulP few L ≠ [] := fun e => by rw [e] at a4; cases a4
  refine ⟨⟨h1, h2, h3, fun w hw => emp (List.all_eq_true.mp a1 w (List.mem_range.mpr hw)), by rw [own]; exact ne, s0, fun w hw hl => ?_, ne⟩, own, sz_of a5, fun c => ?_⟩
  · have q := List.all_eq_true.mp a2 (w - few * (few - 1) / 2) (List.mem_range.mpr (by omega))
    rw [show few * (few - 1) / 2 + (w - few * (few - 1) / 2) = w by omega] at q
    exact emp q
  · rw [Bool.or_eq_true] at a7
    rcases a7 with q | q
    · exact absurd (of_decide_eq_true q) c
    · exact emp q
theorem okd_small {m w : Nat} (hm : m < 5) (hw : w < 14) : Okd (m + 1) w :=
  okd_of (by omega) (by omega) (by omega) (by omega) (List.all_eq_true.mp (List.all_eq_true.mp ok_small m (List.mem_range.mpr hm)) w (List.mem_range.mpr hw))
theorem okd_big {r : Nat} (h : r < 2) : Okd 6 ((17 + r : Nat) : Int) := by
  rcases (by omega : r = 0 ∨ r = 1) with rfl | rfl
  · exact okd_of (by omega) (by omega) (by omega) (by omega) ok_617
  · exact okd_of (by omega) (by omega) (by omega) (by omega) ok_618
theorem bst_all {f : Nat} (h1 : 1 ≤ f) (h2 : f ≤ 6) : ∃ L, Bst f L := by
  rcases (by omega : f = 1 ∨ f = 2 ∨ f = 3 ∨ f = 4 ∨ f = 5 ∨ f = 6) with rfl | rfl | rfl | rfl | rfl | rfl
  · exact ⟨0, bst_of (by omega) (by omega) (by omega) least1⟩
  · exact ⟨1, bst_of (by omega) (by omega) (by omega) least2⟩
  · exact ⟨3, bst_of (by omega) (by omega) (by omega) least3⟩
  · exact ⟨6, bst_of (by omega) (by omega) (by omega) least4⟩
  · exact ⟨11, bst_of (by omega) (by omega) (by omega) least5⟩
  · exact ⟨17, bst_of (by omega) (by omega) (by omega) least6⟩
/-! ### _law_right -/
theorem q_tail {many few L : Nat} {w : Int} (k : Okd many w) (b : Bst few L) (sp : SpO) : tailR [.spr, .dat (.int many), .dat (.int few), .dat (.int w), .un, .un, .un, .un, .un, .un, .un, .un] sp = .ok (.rt (.dat (.bool true))) sp := by
  unfold tailR
  rw [frz_dat rfl, frz_dat rfl, seq_nx (p6 k sp .un .un _), frz_dat rfl, frz_dat rfl, seq_nx (p9 k sp _ .un _), frz_dat rfl, frz_dat rfl, frz_dat rfl, frz_dat rfl, seq_nx (p14 k sp _)]
  obtain ⟨z6, z7, e⟩ := p15 k sp .un .un .spr (.dat (.int few)) (.dat (.tuple (RT (rulP many w)))) .un [.un, .un, .un]
  rw [seq_nx e, frz_dat rfl, seq_nx (p17 b sp _ _ _ _ _ _ _ _ _ _ _), frz_dat rfl, seq_nx (p19 b sp _ _ _ _ _ _ _ _ _ _), seq_nx (p20 sp _ _ _ _ _ _ _ _ _ _ _ _), frz_dat rfl, frz_dat rfl, seq_nx (p23 b sp _ _ _ _ _ _ _ _ _ _), frz_dat rfl, frz_dat rfl]
  exact p26 b sp _ _ _ _ _ _ _ _ _
theorem dPar_go {ta tb : DE} {ρ : Env_} {sp sp1 sp2 : SpO} {s t : Sl} {i j : Nat} (h1 : ta ρ sp = .ok s sp1) (h2 : tb ρ sp1 = .ok t sp2) : dPar i j (dCons ta (dCons tb dNil)) ρ sp = .ok (.nx ((ρ.set i s).set j t)) sp2 := by
  unfold dPar dCons
  rw [h1, Out.bind_ok, h2]
  rfl
theorem dTup2 {ta tb : DE} {ρ : Env_} {sp sp1 sp2 : SpO} {a b : D} (h1 : ta ρ sp = .ok (.dat a) sp1) (h2 : tb ρ sp1 = .ok (.dat b) sp2) : dTup (dCons ta (dCons tb dNil)) ρ sp = .ok (.dat (.tuple [a, b])) sp2 := by
  unfold dTup dCons
  rw [h1, Out.bind_ok, h2]
  show (if ([a, b] : List D).length ≤ sizeLine then Out.ok (Sl.dat (.tuple [a, b])) sp2 else .bad) = _
  exact if_pos two_le
theorem dB_go2 {g : D → D → Option Sl} {ta tb : DE} {ρ : Env_} {sp sp1 sp2 : SpO} {x y z : Sl} (h1 : ta ρ sp = .ok x sp1) (h2 : tb ρ sp1 = .ok y sp2) (hg : un2 g x y = some z) : dB g ta tb ρ sp = .ok z sp2 := by
  unfold dB
  rw [h1, Out.bind_ok, h2, Out.bind_ok, hg]
  rfl
theorem dBu2 {g : List Sl → Option Sl} {ta tb : DE} {ρ : Env_} {sp sp1 sp2 : SpO} {s t z : Sl} (h1 : ta ρ sp = .ok s sp1) (h2 : tb ρ sp1 = .ok t sp2) (hg : g [s, t] = some z) : dBu g (dCons ta (dCons tb dNil)) ρ sp = .ok z sp2 := by
  unfold dBu dCons
  rw [h1, Out.bind_ok, h2]
  show opt (g [s, t]) sp2 = _
  rw [hg]
  rfl
abbrev dDraw (n : Int) : DE := dCall m__law_draw 2 (dCons (dAg 0) (dCons (dC (PyData.int n)) dNil))
theorem draw_at (n : Nat) (h : 0 < n) (h2 : n < 1000) (zs : Env_) (t : Int × Int × Int) : ∃ (r : Nat) (t' : Int × Int × Int), r < n ∧ dDraw n (.spr :: zs) (some t) = .ok (.dat (.int r)) (some t') := by
  obtain ⟨r, t', hr, e⟩ := q_draw t n h h2
  refine ⟨r, t', hr, ?_⟩
  show (if ([.spr, .dat (.int n)] : List Sl).length = 2 then m__law_draw [.spr, .dat (.int n)] (some t) else .bad) = _
  exact (if_pos (show ([.spr, .dat (.int n)] : List Sl).length = 2 from rfl)).trans e
theorem eq0 (r : Nat) : gEq (.int r) (.int 0) = some (.dat (.bool (decide (r = 0)))) := by
  rw [eq_int]
  congr 3
  simp
theorem q_head (T : DS) (t : Int × Int × Int) : ∃ (many few w : Nat) (t' : Int × Int × Int), Okd many w ∧ 1 ≤ few ∧ few ≤ 6 ∧
    dSeq P0 (dSeq P1 (dSeq P2 (dSeq P3 T))) [.spr, .un, .un, .un, .un, .un, .un, .un, .un, .un, .un, .un] (some t) = T [.spr, .dat (.int many), .dat (.int few), .dat (.int w), .un, .un, .un, .un, .un, .un, .un, .un] (some t') := by
  obtain ⟨r1, t1, h1, e1⟩ := draw_at 5 (by decide) (by decide) [.un, .un, .un, .un, .un, .un, .un, .un, .un, .un, .un] t
  obtain ⟨r2, t2, h2, e2⟩ := draw_at 4 (by decide) (by decide) [.un, .un, .un, .un, .un, .un, .un, .un, .un, .un, .un] t1
  have c1 : (1 : Int) + (r1 : Int) = ((r1 + 1 : Nat) : Int) := by omega
  have c2 : (1 : Int) + (r2 : Int) = ((r2 + 1 : Nat) : Int) := by omega
  have a0 : P0 [.spr, .un, .un, .un, .un, .un, .un, .un, .un, .un, .un, .un] (some t) = .ok (.nx [.spr, .dat (.int ((r1 + 1 : Nat) : Int)), .dat (.int ((r2 + 1 : Nat) : Int)), .un, .un, .un, .un, .un, .un, .un, .un, .un]) (some t2) := by
    have f1 : dB gAdd (dC (PyData.int 1)) (dDraw 5) [.spr, .un, .un, .un, .un, .un, .un, .un, .un, .un, .un, .un] (some t) = .ok (.dat (.int ((r1 + 1 : Nat) : Int))) (some t1) := by
      show Out.bind (dDraw 5 _ _) _ = _
      rw [show dDraw (5 : Int) _ (some t) = _ from e1]
      show Out.ok (Sl.dat (.int ((1 : Int) + (r1 : Int)))) _ = _
      rw [c1]
    have f2 : dB gAdd (dC (PyData.int 1)) (dDraw 4) [.spr, .un, .un, .un, .un, .un, .un, .un, .un, .un, .un, .un] (some t1) = .ok (.dat (.int ((r2 + 1 : Nat) : Int))) (some t2) := by
      show Out.bind (dDraw 4 _ _) _ = _
      rw [show dDraw (4 : Int) _ (some t1) = _ from e2]
      show Out.ok (Sl.dat (.int ((1 : Int) + (r2 : Int)))) _ = _
      rw [c2]
    exact dPar_go f1 f2
  rw [seq_nx a0]
  generalize hm : r1 + 1 = many0 at *
  generalize hf : r2 + 1 = few0 at *
  obtain ⟨r3, t3, h3, e3⟩ := draw_at 14 (by decide) (by decide) [.dat (.int many0), .dat (.int few0), .un, .un, .un, .un, .un, .un, .un, .un, .un] t2
  have a1 : P1 [.spr, .dat (.int many0), .dat (.int few0), .un, .un, .un, .un, .un, .un, .un, .un, .un] (some t2) = .ok (.nx [.spr, .dat (.int many0), .dat (.int few0), .dat (.int r3), .un, .un, .un, .un, .un, .un, .un, .un]) (some t3) := by
    unfold P1 dSet
    rw [show dCall m__law_draw 2 (dCons (dAg 0) (dCons (dC (PyData.int 14)) dNil)) _ (some t2) = _ from e3]
    rfl
  rw [seq_nx a1]
  have a2 : ∃ (many w : Nat) (t4 : Int × Int × Int), Okd many w ∧ P2 [.spr, .dat (.int many0), .dat (.int few0), .dat (.int r3), .un, .un, .un, .un, .un, .un, .un, .un] (some t3) = .ok (.nx [.spr, .dat (.int many), .dat (.int few0), .dat (.int w), .un, .un, .un, .un, .un, .un, .un, .un]) (some t4) := by
    obtain ⟨r4, t4, h4, e4⟩ := draw_at 24 (by decide) (by decide) [.dat (.int many0), .dat (.int few0), .dat (.int r3), .un, .un, .un, .un, .un, .un, .un, .un] t3
    have q4 : dTb (dB gEq (dCall m__law_draw 2 (dCons (dAg 0) (dCons (dC (PyData.int 24)) dNil))) (dC (PyData.int 0))) [.spr, .dat (.int many0), .dat (.int few0), .dat (.int r3), .un, .un, .un, .un, .un, .un, .un, .un] (some t3) = .ok (decide (r4 = 0)) (some t4) := by
      unfold dTb dB
      rw [show dCall m__law_draw 2 (dCons (dAg 0) (dCons (dC (PyData.int 24)) dNil)) _ (some t3) = _ from e4, Out.bind_ok]
      show Out.bind (opt (gEq (.int r4) (.int 0)) (some t4)) _ = _
      rw [eq0]
      rfl
    by_cases c : r4 = 0
    · obtain ⟨r5, t5, h5, e5⟩ := draw_at 2 (by decide) (by decide) [.dat (.int many0), .dat (.int few0), .dat (.int r3), .un, .un, .un, .un, .un, .un, .un, .un] t4
      refine ⟨6, 17 + r5, t5, okd_big h5, ?_⟩
      unfold P2 dIfS
      rw [q4, decide_eq_true c, Out.bind_ok, if_pos rfl]
      have f5 : dTup (dCons (dC (PyData.int 6)) (dCons (dB gAdd (dC (PyData.int 17)) (dCall m__law_draw 2 (dCons (dAg 0) (dCons (dC (PyData.int 2)) dNil)))) dNil)) [.spr, .dat (.int many0), .dat (.int few0), .dat (.int r3), .un, .un, .un, .un, .un, .un, .un, .un] (some t4) = .ok (.dat (.tuple [.int 6, .int ((17 + r5 : Nat) : Int)])) (some t5) := by
        have f6 : dB gAdd (dC (PyData.int 17)) (dDraw 2) [.spr, .dat (.int many0), .dat (.int few0), .dat (.int r3), .un, .un, .un, .un, .un, .un, .un, .un] (some t4) = .ok (.dat (.int ((17 + r5 : Nat) : Int))) (some t5) := by
          show Out.bind (dDraw 2 _ _) _ = _
          rw [show dDraw (2 : Int) _ (some t4) = _ from e5]
          show Out.ok (Sl.dat (.int ((17 : Int) + (r5 : Int)))) _ = _
          rw [show (17 : Int) + (r5 : Int) = ((17 + r5 : Nat) : Int) by omega]
        exact dTup2 rfl f6
      rw [seq_nx (ρ' := [.spr, .dat (.int ((6 : Nat) : Int)), .dat (.int few0), .dat (.int ((17 + r5 : Nat) : Int)), .un, .un, .un, .un, .un, .un, .un, .un]) (sp' := some t5)]
      · rfl
      unfold dAsg
      rw [f5]
      rfl
    · refine ⟨many0, r3, t4, by rw [← hm]; exact okd_small h1 h3, ?_⟩
      unfold P2 dIfS
      rw [q4, decide_eq_false c]
      rfl
  obtain ⟨many, w, t4, ok, a2⟩ := a2
  rw [seq_nx a2]
  have a3 : ∃ (few : Nat) (t5 : Int × Int × Int), 1 ≤ few ∧ few ≤ 6 ∧ P3 [.spr, .dat (.int many), .dat (.int few0), .dat (.int w), .un, .un, .un, .un, .un, .un, .un, .un] (some t4) = .ok (.nx [.spr, .dat (.int many), .dat (.int few), .dat (.int w), .un, .un, .un, .un, .un, .un, .un, .un]) (some t5) := by
    obtain ⟨r6, t6, h6, e6⟩ := draw_at 6 (by decide) (by decide) [.dat (.int many), .dat (.int few0), .dat (.int w), .un, .un, .un, .un, .un, .un, .un, .un] t4
    have q6 : dTb (dB gEq (dCall m__law_draw 2 (dCons (dAg 0) (dCons (dC (PyData.int 6)) dNil))) (dC (PyData.int 0))) [.spr, .dat (.int many), .dat (.int few0), .dat (.int w), .un, .un, .un, .un, .un, .un, .un, .un] (some t4) = .ok (decide (r6 = 0)) (some t6) := by
      unfold dTb dB
      rw [show dCall m__law_draw 2 (dCons (dAg 0) (dCons (dC (PyData.int 6)) dNil)) _ (some t4) = _ from e6, Out.bind_ok]
      show Out.bind (opt (gEq (.int r6) (.int 0)) (some t6)) _ = _
      rw [eq0]
      rfl
    by_cases c : r6 = 0
    · obtain ⟨r7, t7, h7, e7⟩ := draw_at 9 (by decide) (by decide) [.dat (.int many), .dat (.int few0), .dat (.int w), .un, .un, .un, .un, .un, .un, .un, .un] t6
      have q7 : dTb (dB gEq (dCall m__law_draw 2 (dCons (dAg 0) (dCons (dC (PyData.int 9)) dNil))) (dC (PyData.int 0))) [.spr, .dat (.int many), .dat (.int few0), .dat (.int w), .un, .un, .un, .un, .un, .un, .un, .un] (some t6) = .ok (decide (r7 = 0)) (some t7) := by
        unfold dTb dB
        rw [show dCall m__law_draw 2 (dCons (dAg 0) (dCons (dC (PyData.int 9)) dNil)) _ (some t6) = _ from e7, Out.bind_ok]
        show Out.bind (opt (gEq (.int r7) (.int 0)) (some t7)) _ = _
        rw [eq0]
        rfl
      refine ⟨if r7 = 0 then 6 else 5, t7, by split <;> omega, by split <;> omega, ?_⟩
      unfold P3 dIfS
      rw [q6, decide_eq_true c, Out.bind_ok, if_pos rfl]
      have f7 : dIf (dTb (dB gEq (dCall m__law_draw 2 (dCons (dAg 0) (dCons (dC (PyData.int 9)) dNil))) (dC (PyData.int 0)))) (dC (PyData.int 1)) (dC (PyData.int 0)) [.spr, .dat (.int many), .dat (.int few0), .dat (.int w), .un, .un, .un, .un, .un, .un, .un, .un] (some t6) = .ok (.dat (.int (if r7 = 0 then 1 else 0))) (some t7) := by
        unfold dIf
        rw [q7]
        by_cases c7 : r7 = 0
        · rw [decide_eq_true c7, if_pos c7]; rfl
        · rw [decide_eq_false c7, if_neg c7]; rfl
      have f8 : dB gAdd (dC (PyData.int 5)) (dIf (dTb (dB gEq (dCall m__law_draw 2 (dCons (dAg 0) (dCons (dC (PyData.int 9)) dNil))) (dC (PyData.int 0)))) (dC (PyData.int 1)) (dC (PyData.int 0))) [.spr, .dat (.int many), .dat (.int few0), .dat (.int w), .un, .un, .un, .un, .un, .un, .un, .un] (some t6) = .ok (.dat (.int ((if r7 = 0 then 6 else 5 : Nat) : Int))) (some t7) := by
        refine dB_go2 rfl f7 ?_
        by_cases c7 : r7 = 0
        · rw [if_pos c7, if_pos c7]; rfl
        · rw [if_neg c7, if_neg c7]; rfl
      rw [seq_nx (ρ' := [.spr, .dat (.int many), .dat (.int ((if r7 = 0 then 6 else 5 : Nat) : Int)), .dat (.int w), .un, .un, .un, .un, .un, .un, .un, .un]) (sp' := some t7)]
      · rfl
      unfold dSet
      rw [f8]
      rfl
    · refine ⟨few0, t6, by omega, by omega, ?_⟩
      unfold P3 dIfS
      rw [q6, decide_eq_false c]
      rfl
  obtain ⟨few, t5, f1, f6, a3⟩ := a3
  exact ⟨many, few, w, t5, ok, f1, f6, seq_nx a3⟩
theorem q_right (t : Int × Int × Int) : ∃ t', m__law_right [.spr] (some t) = .ok (.dat (.bool true)) (some t') := by
  obtain ⟨many, few, w, t', ok, f1, f6, e⟩ := q_head tailR t
  obtain ⟨L, b⟩ := bst_all f1 f6
  refine ⟨t', ?_⟩
  unfold m__law_right mirOf
  rw [right_is]
  show Out.bind (dSeq P0 (dSeq P1 (dSeq P2 (dSeq P3 tailR))) [.spr, .un, .un, .un, .un, .un, .un, .un, .un, .un, .un, .un] (some t)) _ = _
  rw [e, q_tail ok b]
  rfl
theorem q_law (ns : List Int) (h : ns.length ≤ 63) : m_law [.dat (.list (ns.map PyData.int))] none = .ok (.dat (.bool true)) none := by
  have hs : sizeLine = 16777216 := sizeLine_eq
  have el : ∀ (turn : Nat) (zs : Env_), turn ≤ 5 → dCallSpr m__law_right (dCall m__law_spring 2 (dCons (dAg 0) (dCons (dAg 1) dNil))) [.dat (LL ns), .dat (.int turn)] none = .ok (.dat (.bool true)) none := fun turn _ ht => by
    obtain ⟨a, b, c, e⟩ := q_spring ns turn h ht
    obtain ⟨t', e2⟩ := q_right (a, b, c)
    unfold dCallSpr
    rw [dCall2 rfl rfl, e]
    show (match m__law_right [.spr] (some (a, b, c)) with
      | .ok (.dat d) _ => Out.ok (Sl.dat d) none
      | _ => .bad) = _
    rw [e2]
  have k1 : lcGo (gdName 1) dYes (dCallSpr m__law_right (dCall m__law_spring 2 (dCons (dAg 0) (dCons (dAg 1) dNil)))) [.dat (LL ns), .un] ((List.range 2).map fun i : Nat => PyData.int ((0 : Int) + (i : Int))) [] none = .ok ([true, true].map PyData.bool) none := by
    rw [lcGo_all _ (fun _ => .bool true)]
    · rfl
    · intro i hi acc hacc
      have hi := List.mem_range.mp hi
      have e := el i [] (by omega)
      have e' : dCallSpr m__law_right (dCall m__law_spring 2 (dCons (dAg 0) (dCons (dAg 1) dNil))) [.dat (LL ns), .dat (.int ((0 : Int) + (i : Int)))] none = .ok (.dat (.bool true)) none := by
        rw [Int.zero_add]; exact e
      simp only [lcOne, gdName, dYes, List.set, noX_ok, Out.bind_ok, if_true, e', Sl.d?, if_pos hacc]
    · rw [hs]; decide
  have mm : (if (if (2 : Int) < (ns.length : Int) then (2 : Int) else (ns.length : Int)) > 2 then (if (2 : Int) < (ns.length : Int) then (2 : Int) else (ns.length : Int)) else 2) = 2 := by
    split <;> (try split at *) <;> omega
  have gm : dBu gMax (dCons (dC (PyData.int 2)) (dCons (dBu gMin (dCons (dBu gLen (dCons (dRd 0) dNil)) (dCons (dC (PyData.int 2)) dNil))) dNil)) [.dat (LL ns), .un] none = .ok (.dat (.int 2)) none := by
    have l : dBu gMin (dCons (dBu gLen (dCons (dRd 0) dNil)) (dCons (dC (PyData.int 2)) dNil)) [.dat (LL ns), .un] none = .ok (.dat (.int (if (2 : Int) < (ns.length : Int) then (2 : Int) else (ns.length : Int)))) none := by
      show Out.ok (Sl.dat (.int (if (2 : Int) < ((IL ns).length : Int) then (2 : Int) else ((IL ns).length : Int)))) none = _
      rw [List.length_map]
    refine dBu2 rfl l ?_
    show some (Sl.dat (.int _)) = _
    rw [mm]
  unfold m_law mirOf t_law dRet
  show Out.bind (Out.bind (dBu gAll _ [.dat (LL ns), .un] none) _) _ = _
  have r1 : dRange1 (dCons (dBu gMax (dCons (dC (PyData.int 2)) (dCons (dBu gMin (dCons (dBu gLen (dCons (dRd 0) dNil)) (dCons (dC (PyData.int 2)) dNil))) dNil))) dNil) [.dat (LL ns), .un] none = .ok ((List.range 2).map fun i : Nat => PyData.int ((0 : Int) + (i : Int))) none := by
    unfold dRange1
    rw [dCons, gm]
    rfl
  have lc : dLc (dRange1 (dCons (dBu gMax (dCons (dC (PyData.int 2)) (dCons (dBu gMin (dCons (dBu gLen (dCons (dRd 0) dNil)) (dCons (dC (PyData.int 2)) dNil))) dNil))) dNil)) (gdName 1) dYes (dCallSpr m__law_right (dCall m__law_spring 2 (dCons (dAg 0) (dCons (dAg 1) dNil)))) [1] [.dat (LL ns), .un] none = .ok (.ol ([true, true].map PyData.bool)) none := by
    unfold dLc
    rw [r1, Out.bind_ok]
    show Out.bind (lcGo _ _ _ [.dat (LL ns), .un] _ [] none) _ = _
    rw [k1]
    rfl
  rw [dBu1 lc (z := .dat (.bool true)) rfl]
  rfl
end Dn
namespace Dn
open PySem PySem.Spec PyProof.Rows L2
/-! ### the head -/
def dd (x : Str) (st : Stmt) : He.DefD := ⟨(x, none), x, x, defArgs st, defBody st, defScope st, [], []⟩
def hfn : List He.DefD := [dd "is_whole" s_is_whole, dd "is_whole_between" s_is_whole_between, dd "wrong_in_marks" s_wrong_in_marks, dd "gaps_by" s_gaps_by, dd "ruler_lengths" s_ruler_lengths, dd "is_ruler_by" s_is_ruler_by, dd "check_marks" s_check_marks, dd "check_number" s_check_number, dd "is_place_let" s_is_place_let, dd "rulers_within" s_rulers_within, dd "rulers_of_length" s_rulers_of_length, dd "shortest_by" s_shortest_by, dd "rulers_of" s_rulers_of, dd "shortest_length" s_shortest_length, dd "shortest_rulers" s_shortest_rulers, dd "gaps_of" s_gaps_of, dd "is_ruler" s_is_ruler, dd "_law_spring" s__law_spring, dd "_law_draw" s__law_draw, dd "_law_lengths" s__law_lengths, dd "_law_unlike" s__law_unlike, dd "_law_lets" s__law_lets, dd "_law_found" s__law_found, dd "_law_shortest" s__law_shortest, dd "_law_right" s__law_right, dd "law" s_law]
def hfa : List He.Fa := [.glo "is_whole", .glo "is_whole_between", .glo "wrong_in_marks", .glo "gaps_by", .glo "ruler_lengths", .glo "is_ruler_by", .glo "check_marks", .glo "check_number", .glo "is_place_let", .glo "rulers_within", .glo "rulers_of_length", .glo "shortest_by", .glo "rulers_of", .glo "shortest_length", .glo "shortest_rulers", .glo "gaps_of", .glo "is_ruler", .glo "_law_spring", .glo "_law_draw", .glo "_law_lengths", .glo "_law_unlike", .glo "_law_lets", .glo "_law_found", .glo "_law_shortest", .glo "_law_right", .glo "law", .free "abs", .free "all", .free "any", .free "bool", .free "divmod", .free "enumerate", .free "int", .free "isinstance", .free "len", .free "max", .free "min", .free "range", .free "repr", .free "set", .free "sorted", .free "sum", .free "tuple", .free "zip", .int "MOST_LENGTH" 30, .int "MOST_MARKS_LET" 60, .int "MOST_SOUGHT" 6]
def lo0 : List Str := ["is_whole", "is_whole_between", "wrong_in_marks", "gaps_by", "ruler_lengths", "is_ruler_by", "check_marks", "check_number", "is_place_let", "rulers_within", "rulers_of_length", "shortest_by", "rulers_of", "shortest_length", "shortest_rulers", "gaps_of", "is_ruler", "_law_spring", "_law_draw", "_law_lengths", "_law_unlike", "_law_lets", "_law_found", "_law_shortest", "_law_right", "GapError", "InvalidNumber", "InvalidMarks", "MOST_MARKS_LET", "MOST_SOUGHT"]
def lo1 : List Str := ["MOST_LENGTH"]
def hlo : List Str := lo0 ++ lo1
abbrev hR : PySem.W.OpenRow := PySem.W.OpenLaw.row PySem.Challenge.rw_samegaps_k66_whole_rulers_by_own_search
abbrev hhk : PySem.W.Hook := He.hookD 4 hfa hfn
def hob (s : PySem.W.SharedT) : He.AlD := He.obsDG 4 hfa hfn (HandSHeadRun.getT s)
theorem hob_eq (s : PySem.W.SharedT) : hob s = hhk.obs s.abs := He.obsDG_eq (HandSHeadRun.getT_eq s)
theorem hrun (w : World) : HandSHeadRun.RunEq hR (PySem.W.view hR.prog [40]) hhk hob 6000 hlo w := by
  intro os
  kernel_rfl
theorem hfacts {K : PySem.W.Frag} {h : Heap} {mg : Str → Option Value} (X : K.In h) (G : h.Ns mainGlobals mg) (c : He.SaysD hfa hfn K) : Fa K mg where
  d_is_whole := (c.def_ 0 (d := dd "is_whole" s_is_whole) rfl).elim fun fd F => ⟨_, fd, F, He.glo_ok X G (c.fact 0 (f := .glo "is_whole") rfl)⟩
  d_is_whole_between := (c.def_ 1 (d := dd "is_whole_between" s_is_whole_between) rfl).elim fun fd F => ⟨_, fd, F, He.glo_ok X G (c.fact 1 (f := .glo "is_whole_between") rfl)⟩
  d_wrong_in_marks := (c.def_ 2 (d := dd "wrong_in_marks" s_wrong_in_marks) rfl).elim fun fd F => ⟨_, fd, F, He.glo_ok X G (c.fact 2 (f := .glo "wrong_in_marks") rfl)⟩
  d_gaps_by := (c.def_ 3 (d := dd "gaps_by" s_gaps_by) rfl).elim fun fd F => ⟨_, fd, F, He.glo_ok X G (c.fact 3 (f := .glo "gaps_by") rfl)⟩
  d_ruler_lengths := (c.def_ 4 (d := dd "ruler_lengths" s_ruler_lengths) rfl).elim fun fd F => ⟨_, fd, F, He.glo_ok X G (c.fact 4 (f := .glo "ruler_lengths") rfl)⟩
  d_is_ruler_by := (c.def_ 5 (d := dd "is_ruler_by" s_is_ruler_by) rfl).elim fun fd F => ⟨_, fd, F, He.glo_ok X G (c.fact 5 (f := .glo "is_ruler_by") rfl)⟩
  d_check_marks := (c.def_ 6 (d := dd "check_marks" s_check_marks) rfl).elim fun fd F => ⟨_, fd, F, He.glo_ok X G (c.fact 6 (f := .glo "check_marks") rfl)⟩
  d_check_number := (c.def_ 7 (d := dd "check_number" s_check_number) rfl).elim fun fd F => ⟨_, fd, F, He.glo_ok X G (c.fact 7 (f := .glo "check_number") rfl)⟩
  d_is_place_let := (c.def_ 8 (d := dd "is_place_let" s_is_place_let) rfl).elim fun fd F => ⟨_, fd, F, He.glo_ok X G (c.fact 8 (f := .glo "is_place_let") rfl)⟩
  d_rulers_within := (c.def_ 9 (d := dd "rulers_within" s_rulers_within) rfl).elim fun fd F => ⟨_, fd, F, He.glo_ok X G (c.fact 9 (f := .glo "rulers_within") rfl)⟩
  d_rulers_of_length := (c.def_ 10 (d := dd "rulers_of_length" s_rulers_of_length) rfl).elim fun fd F => ⟨_, fd, F, He.glo_ok X G (c.fact 10 (f := .glo "rulers_of_length") rfl)⟩
  d_shortest_by := (c.def_ 11 (d := dd "shortest_by" s_shortest_by) rfl).elim fun fd F => ⟨_, fd, F, He.glo_ok X G (c.fact 11 (f := .glo "shortest_by") rfl)⟩
  d_rulers_of := (c.def_ 12 (d := dd "rulers_of" s_rulers_of) rfl).elim fun fd F => ⟨_, fd, F, He.glo_ok X G (c.fact 12 (f := .glo "rulers_of") rfl)⟩
  d_shortest_length := (c.def_ 13 (d := dd "shortest_length" s_shortest_length) rfl).elim fun fd F => ⟨_, fd, F, He.glo_ok X G (c.fact 13 (f := .glo "shortest_length") rfl)⟩
  d_shortest_rulers := (c.def_ 14 (d := dd "shortest_rulers" s_shortest_rulers) rfl).elim fun fd F => ⟨_, fd, F, He.glo_ok X G (c.fact 14 (f := .glo "shortest_rulers") rfl)⟩
  d_gaps_of := (c.def_ 15 (d := dd "gaps_of" s_gaps_of) rfl).elim fun fd F => ⟨_, fd, F, He.glo_ok X G (c.fact 15 (f := .glo "gaps_of") rfl)⟩
  d_is_ruler := (c.def_ 16 (d := dd "is_ruler" s_is_ruler) rfl).elim fun fd F => ⟨_, fd, F, He.glo_ok X G (c.fact 16 (f := .glo "is_ruler") rfl)⟩
  d__law_spring := (c.def_ 17 (d := dd "_law_spring" s__law_spring) rfl).elim fun fd F => ⟨_, fd, F, He.glo_ok X G (c.fact 17 (f := .glo "_law_spring") rfl)⟩
  d__law_draw := (c.def_ 18 (d := dd "_law_draw" s__law_draw) rfl).elim fun fd F => ⟨_, fd, F, He.glo_ok X G (c.fact 18 (f := .glo "_law_draw") rfl)⟩
  d__law_lengths := (c.def_ 19 (d := dd "_law_lengths" s__law_lengths) rfl).elim fun fd F => ⟨_, fd, F, He.glo_ok X G (c.fact 19 (f := .glo "_law_lengths") rfl)⟩
  d__law_unlike := (c.def_ 20 (d := dd "_law_unlike" s__law_unlike) rfl).elim fun fd F => ⟨_, fd, F, He.glo_ok X G (c.fact 20 (f := .glo "_law_unlike") rfl)⟩
  d__law_lets := (c.def_ 21 (d := dd "_law_lets" s__law_lets) rfl).elim fun fd F => ⟨_, fd, F, He.glo_ok X G (c.fact 21 (f := .glo "_law_lets") rfl)⟩
  d__law_found := (c.def_ 22 (d := dd "_law_found" s__law_found) rfl).elim fun fd F => ⟨_, fd, F, He.glo_ok X G (c.fact 22 (f := .glo "_law_found") rfl)⟩
  d__law_shortest := (c.def_ 23 (d := dd "_law_shortest" s__law_shortest) rfl).elim fun fd F => ⟨_, fd, F, He.glo_ok X G (c.fact 23 (f := .glo "_law_shortest") rfl)⟩
  d__law_right := (c.def_ 24 (d := dd "_law_right" s__law_right) rfl).elim fun fd F => ⟨_, fd, F, He.glo_ok X G (c.fact 24 (f := .glo "_law_right") rfl)⟩
  d_law := (c.def_ 25 (d := dd "law" s_law) rfl).elim fun fd F => ⟨_, fd, F, He.glo_ok X G (c.fact 25 (f := .glo "law") rfl)⟩
  b_abs := He.free_ok X G (c.fact 26 (f := .free "abs") rfl)
  b_all := He.free_ok X G (c.fact 27 (f := .free "all") rfl)
  b_any := He.free_ok X G (c.fact 28 (f := .free "any") rfl)
  b_bool := He.free_ok X G (c.fact 29 (f := .free "bool") rfl)
  b_divmod := He.free_ok X G (c.fact 30 (f := .free "divmod") rfl)
  b_enumerate := He.free_ok X G (c.fact 31 (f := .free "enumerate") rfl)
  b_int := He.free_ok X G (c.fact 32 (f := .free "int") rfl)
  b_isinstance := He.free_ok X G (c.fact 33 (f := .free "isinstance") rfl)
  b_len := He.free_ok X G (c.fact 34 (f := .free "len") rfl)
  b_max := He.free_ok X G (c.fact 35 (f := .free "max") rfl)
  b_min := He.free_ok X G (c.fact 36 (f := .free "min") rfl)
  b_range := He.free_ok X G (c.fact 37 (f := .free "range") rfl)
  b_repr := He.free_ok X G (c.fact 38 (f := .free "repr") rfl)
  b_set := He.free_ok X G (c.fact 39 (f := .free "set") rfl)
  b_sorted := He.free_ok X G (c.fact 40 (f := .free "sorted") rfl)
  b_sum := He.free_ok X G (c.fact 41 (f := .free "sum") rfl)
  b_tuple := He.free_ok X G (c.fact 42 (f := .free "tuple") rfl)
  b_zip := He.free_ok X G (c.fact 43 (f := .free "zip") rfl)
  c_MOST_LENGTH := He.int_ok X G (c.fact 44 (f := .int "MOST_LENGTH" 30) rfl)
  c_MOST_MARKS_LET := He.int_ok X G (c.fact 45 (f := .int "MOST_MARKS_LET" 60) rfl)
  c_MOST_SOUGHT := He.int_ok X G (c.fact 46 (f := .int "MOST_SOUGHT" 6) rfl)
end Dn
open PySem PySem.W PySem.Calls PyProof.Rows
theorem PySem.Challenge.cw_samegaps_k66_whole_rulers_by_own_search_holds : PySem.Challenge.rw_samegaps_k66_whole_rulers_by_own_search.Holds := by
  w_on; o_law
  refine HandSHeadRun.head_any (r := OpenLaw.row PySem.Challenge.rw_samegaps_k66_whole_rulers_by_own_search) (q := view (OpenLaw.row PySem.Challenge.rw_samegaps_k66_whole_rulers_by_own_search).prog [40]) (H := Dn.hhk) (ob := Dn.hob) (M := 6000) (loose := Dn.hlo) (d := HandSHeadRun.topDef (OpenLaw.row PySem.Challenge.rw_samegaps_k66_whole_rulers_by_own_search).prog 40) (kwd := []) Dn.hob_eq
    (by kernel_rfl) (fun s => by kernel_rfl) Dn.hrun (by kernel_rfl) (by kernel_rfl) (by kernel_rfl) (by rfl) (by first | assumption | decide +kernel) (by decide +kernel) ⟨rfl, rfl, rfl, rfl, rfl, by decide +kernel⟩ ?hw ?hc
  case hw => w_witness2
  case hc =>
    refine Dn.walkG0 (l := PySem.Challenge.rw_samegaps_k66_whole_rulers_by_own_search) (n := 63) (k := 8) (x := "_law_script") (mir := Dn.m_law) rfl (by decide) (by kernel_rfl) ⟨rfl, by decide, by decide⟩ ?F fun ns hl hb => Dn.q_law ns hl
    intro w mg fa h Y G hmg0
    obtain ⟨K, KX, c⟩ := Y
    have hmg : mg ("law" : PySem.Str) = some (.ref fa) := by
      have e : (HandSHeadRun.topDef (OpenLaw.row PySem.Challenge.rw_samegaps_k66_whole_rulers_by_own_search).prog 40).name = ("law" : PySem.Str) := by kernel_rfl
      rw [← e]
      exact hmg0
    have A := Dn.hfacts KX G c
    obtain ⟨f, fd, F, g⟩ := A.d_law
    have ef := hmg.symm.trans g
    cases ef
    have b := L2.FunD.bindsA (ps := ["_law_script"]) F fun _ _ _ _ _ _ us hl => match us, hl with | [_], _ => rfl
    exact ⟨K, fd, KX, fun s u => b s [u] rfl, fun base _ _ => Dn.w_law A F⟩
