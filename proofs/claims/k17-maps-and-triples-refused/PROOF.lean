import PyProof.Rows.All
import Wide.All
import OpenK.AllK
import Wide.FinOn
import HandS.Base
import HandS.Call
import HandS.List
import HandS.Comp
import HandS.Ends
import HandS.Words
import HandS.Wide
import HandS.Gcd
import HandS.IsInst
import HandS.Conv
import HandS.TupAny
import HandS.WideBits
import HandS.Iter
import HandS.RaiseMore
import HandS.Deep
import HandS.ForMost
import HandS.Zip
import HandS.Style
import HandS.Star
import KE.GoesEnum
import HandS.NoneIn
import HandS.Dict
import HandS.TupSets
import KE.KSortTupG
import KE.KStateDown
import HandS.Exc
import HandS.ExcIs
import KE.KTryMore
import HandS.Head0
import HandS.Head1
import HandS.Head2
import HandS.Head3
import HandS.HeadHook1
import HandS.ExcOwn
import HandS.TryOnly
import HandS.TupMul
import HandS.ForExc
import HandS.SetFor
import HandS.Strs
import PySem.Challenge.RW_drawarms_k17_maps_and_triples_refused
set_option Elab.async false
set_option linter.all false
set_option maxRecDepth 100000
set_option maxHeartbeats 0
namespace L2.G
open PySem PySem.Spec PyProof.Rows

/-! data: what a Python value is, without the heap -/
inductive D where
  | non | bl (b : Bool) | int (i : Int) | str (x : Str) | tup (xs : List D) | lst (xs : List D)
  | obj (C : Addr) (ns : List Str) (vs : List D) | ref (a : Addr) | scr (xs : List D) | dct (ks : List Key) (ds : List D)

mutual
inductive Rep (K : PySem.W.Frag) (F : Hp) : D → V → Prop
  | non : Rep K F .non .non
  | bl (b : Bool) : Rep K F (.bl b) (.bl b)
  | int (i : Int) : Rep K F (.int i) (.int i)
  | str (x : Str) : Rep K F (.str x) (.str x)
  | tup {a : Addr} {xs : List V} {ds : List D} : SqT K F a xs → RepL K F ds xs → Rep K F (.tup ds) (.ref a)
  | lst {a : Addr} {xs : List V} {ds : List D} : F a = some (.lst xs) → RepL K F ds xs → Rep K F (.lst ds) (.ref a)
  | obj {a C dx : Addr} {fs : List (Str × V)} {ns : List Str} {ds : List D} : F a = some (.ins C dx fs) → fs.map (·.1) = ns → RepL K F ds (fs.map (·.2)) → Rep K F (.obj C ns ds) (.ref a)
  | ref (a : Addr) : (K.lookup a).isSome = true → Rep K F (.ref a) (.ref a)
  | scr {a : Addr} {xs : List V} {ds : List D} : SqL K F a xs → RepL K F ds xs → Rep K F (.scr ds) (.ref a)
  | dct {a : Addr} {kvs : List (Key × V)} {ks : List Key} {ds : List D} : F a = some (.dK kvs) → kvs.map (·.1) = ks → RepL K F ds (kvs.map (·.2)) → Rep K F (.dct ks ds) (.ref a)
inductive RepL (K : PySem.W.Frag) (F : Hp) : List D → List V → Prop
  | nil : RepL K F [] []
  | cons {d : D} {ds : List D} {v : V} {vs : List V} : Rep K F d v → RepL K F ds vs → RepL K F (d :: ds) (v :: vs)
end

theorem same_t {K : PySem.W.Frag} {F F' : Hp} {a : Addr} {xs : List V} (e : Same F F') (h : SqT K F a xs) : SqT K F' a xs := by
  rcases h with (h | ⟨o, h⟩) | h
  · left; left; exact e _ _ h
  · left; right; exact ⟨o, e _ _ h⟩
  · right; exact h

mutual
theorem Rep.mono {K : PySem.W.Frag} {F F' : Hp} (e : Same F F') : ∀ {d : D} {v : V}, Rep K F d v → Rep K F' d v
  | _, _, .non => .non
  | _, _, .bl b => .bl b
  | _, _, .int i => .int i
  | _, _, .str x => .str x
  | _, _, .tup h q => .tup (same_t e h) (RepL.mono e q)
  | _, _, .lst h q => .lst (e _ _ h) (RepL.mono e q)
  | _, _, .obj h n q => .obj (e _ _ h) n (RepL.mono e q)
  | _, _, .ref a h => .ref a h
  | _, _, .scr h q => .scr (e.seq h) (RepL.mono e q)
  | _, _, .dct h n q => .dct (e _ _ h) n (RepL.mono e q)
theorem RepL.mono {K : PySem.W.Frag} {F F' : Hp} (e : Same F F') : ∀ {ds : List D} {vs : List V}, RepL K F ds vs → RepL K F' ds vs
  | _, _, .nil => .nil
  | _, _, .cons h q => .cons (Rep.mono e h) (RepL.mono e q)
end
theorem RepL.len {K : PySem.W.Frag} {F : Hp} : ∀ {ds : List D} {vs : List V}, RepL K F ds vs → ds.length = vs.length
  | _, _, .nil => rfl
  | _, _, .cons _ q => by simp [RepL.len q]
theorem RepL.get {K : PySem.W.Frag} {F : Hp} : ∀ {ds : List D} {vs : List V} {i : Nat} {d : D}, RepL K F ds vs → ds[i]? = some d → ∃ v, vs[i]? = some v ∧ Rep K F d v
  | _, _, _, _, .nil, e => by simp at e
  | _, _, 0, _, .cons h _, e => by simp at e; subst e; exact ⟨_, rfl, h⟩
  | _, _, i + 1, _, .cons _ q, e => by
    obtain ⟨v, h1, h2⟩ := RepL.get (i := i) q (by simpa using e)
    exact ⟨v, by simpa using h1, h2⟩
theorem RepL.getV {K : PySem.W.Frag} {F : Hp} : ∀ {ds : List D} {vs : List V} {i : Nat} {v : V}, RepL K F ds vs → vs[i]? = some v → ∃ d, ds[i]? = some d ∧ Rep K F d v
  | _, _, _, _, .nil, e => by simp at e
  | _, _, 0, _, .cons h _, e => by simp at e; subst e; exact ⟨_, rfl, h⟩
  | _, _, i + 1, _, .cons _ q, e => by
    obtain ⟨v, h1, h2⟩ := RepL.getV (i := i) q (by simpa using e)
    exact ⟨v, by simpa using h1, h2⟩
theorem RepL.app {K : PySem.W.Frag} {F : Hp} : ∀ {ds es : List D} {vs ws : List V}, RepL K F ds vs → RepL K F es ws → RepL K F (ds ++ es) (vs ++ ws)
  | _, _, _, _, .nil, q => q
  | _, _, _, _, .cons h t, q => .cons h (RepL.app t q)
theorem RepL.take {K : PySem.W.Frag} {F : Hp} : ∀ {ds : List D} {vs : List V} (n : Nat), RepL K F ds vs → RepL K F (ds.take n) (vs.take n)
  | _, _, 0, _ => .nil
  | _, _, _ + 1, .nil => .nil
  | _, _, n + 1, .cons h t => .cons h (RepL.take n t)
theorem RepL.drop {K : PySem.W.Frag} {F : Hp} : ∀ {ds : List D} {vs : List V} (n : Nat), RepL K F ds vs → RepL K F (ds.drop n) (vs.drop n)
  | _, _, 0, q => q
  | _, _, _ + 1, .nil => .nil
  | _, _, n + 1, .cons _ t => RepL.drop n t
theorem RepL.set {K : PySem.W.Frag} {F : Hp} {d : D} {v : V} (r : Rep K F d v) : ∀ {ds : List D} {vs : List V} (n : Nat), RepL K F ds vs → RepL K F (ds.set n d) (vs.set n v)
  | _, _, _, .nil => .nil
  | _, _, 0, .cons _ t => .cons r t
  | _, _, n + 1, .cons h t => .cons h (RepL.set r n t)

/-! slots, worlds -/
abbrev Tk := List D
inductive SV where
  | val (d : D) | own (xs : List D) | tank | exc (a : Addr) (g : Option (Addr × Str × D))
abbrev En := List (Option SV)
abbrev KD := D → Tk → Prop
abbrev dE := En → Tk → KD → Prop
abbrev dT := En → Tk → (Bool → Tk → Prop) → Prop
abbrev dA := En → Tk → (List SV → Tk → Prop) → Prop
structure dEnds where
  nx : En → Tk → Prop
  rt : KD
  bk : En → Tk → Prop
  ct : En → Tk → Prop
abbrev dS := dEnds → En → Tk → Prop

structure Wt (K : PySem.W.Frag) (T : Tk) (t : Option Addr) (F H : Hp) : Prop where
  sub : Same F H
  tank : ∀ a, t = some a → F a = none ∧ ∃ vs, H a = some (.lst vs) ∧ RepL K F T vs
structure Grow (t : Option Addr) (F H F' H' : Hp) : Prop where
  sub : Same F F'
  keep : ∀ a o, H a = some o → t ≠ some a → H' a = some o
  new : ∀ a o, H a = some o → F a = none → F' a = none
  there : ∀ a o, H a = some o → ∃ o', H' a = some o'
theorem Grow.refl (t : Option Addr) (F H : Hp) : Grow t F H F H := ⟨Same.refl _, fun _ _ h _ => h, fun _ _ _ h => h, fun _ o h => ⟨o, h⟩⟩
theorem Grow.trans {t : Option Addr} {F H F1 H1 F2 H2 : Hp} (a : Grow t F H F1 H1) (b : Grow t F1 H1 F2 H2) : Grow t F H F2 H2 :=
  ⟨a.sub.trans b.sub, fun c o h n => b.keep c o (a.keep c o h n) n, fun c o h n => let ⟨o', h'⟩ := a.there c o h; b.new c o' h' (a.new c o h n),
    fun c o h => let ⟨o', h'⟩ := a.there c o h; b.there c o' h'⟩

def SlotR (K : PySem.W.Frag) (t : Option Addr) (F H : Hp) : SV → V → Prop
  | .val d, v => Rep K F d v
  | .own xs, v => ∃ l vs, v = .ref l ∧ F l = none ∧ H l = some (.lst vs) ∧ RepL K F xs vs ∧ t ≠ some l
  | .tank, v => ∃ a, t = some a ∧ v = .ref a
  | .exc a g, v => v = .ref a ∧ ∀ dd fl x, g = some (dd, fl, x) → t ≠ some dd ∧ ∃ u, H dd = some (.xd [(fl, u)]) ∧ Rep K F x u
structure Wd (K : PySem.W.Frag) (ρ : En) (T : Tk) (t : Option Addr) (σ : L2.St) (F H : Hp) : Prop where
  wt : Wt K T t F H
  len : ρ.length = σ.length
  slot : ∀ (i : Nat) s, ρ[i]? = some (some s) → ∃ v, σ[i]? = some (some v) ∧ SlotR K t F H s v
  apart : ∀ (i j : Nat) xs ys l, ρ[i]? = some (some (.own xs)) → ρ[j]? = some (some (.own ys)) → σ[i]? = some (some (.ref l)) → σ[j]? = some (some (.ref l)) → i = j
theorem SlotR.grow {K : PySem.W.Frag} {t : Option Addr} {F H F' H' : Hp} (g : Grow t F H F' H') : ∀ {s : SV} {v : V}, SlotR K t F H s v → SlotR K t F' H' s v
  | .val _, _, h => Rep.mono g.sub h
  | .own _, _, ⟨l, vs, e, n, h, r, ne⟩ => ⟨l, vs, e, g.new _ _ h n, g.keep _ _ h ne, r.mono g.sub, ne⟩
  | .tank, _, h => h
  | .exc _ _, _, ⟨e, h⟩ => ⟨e, fun dd fl x q => let ⟨n, u, h1, r⟩ := h dd fl x q; ⟨n, u, g.keep _ _ h1 n, r.mono g.sub⟩⟩
theorem Wd.grow {K : PySem.W.Frag} {ρ : En} {T T' : Tk} {t : Option Addr} {σ : L2.St} {F H F' H' : Hp} (w : Wd K ρ T t σ F H) (g : Grow t F H F' H') (w' : Wt K T' t F' H') : Wd K ρ T' t σ F' H' :=
  ⟨w', w.len, fun i s e => let ⟨v, h1, h2⟩ := w.slot i s e; ⟨v, h1, h2.grow g⟩, w.apart⟩

/-! readings -/
def Fin (K : PySem.W.Frag) (t : Option Addr) (F H : Hp) (k : KD) (Q : VK) : Prop := ∀ v H' F' d T', Wt K T' t F' H' → Grow t F H F' H' → Rep K F' d v → k d T' → Q v H'
def tD (K : PySem.W.Frag) (f : dE) : TE := fun σ H Q => ∃ ρ T t F k, Wd K ρ T t σ F H ∧ f ρ T k ∧ Fin K t F H k Q
def tDT (K : PySem.W.Frag) (f : dT) : TT := fun σ H Q => ∃ ρ T t F k, Wd K ρ T t σ F H ∧ f ρ T k ∧ ∀ b H' F' T', Wt K T' t F' H' → Grow t F H F' H' → k b T' → Q b H'
inductive ArgL (K : PySem.W.Frag) (t : Option Addr) (F : Hp) : List SV → List V → Prop
  | nil : ArgL K t F [] []
  | val {d : D} {v : V} {as : List SV} {vs : List V} : Rep K F d v → ArgL K t F as vs → ArgL K t F (.val d :: as) (v :: vs)
  | tank {a : Addr} {as : List SV} {vs : List V} : t = some a → ArgL K t F as vs → ArgL K t F (.tank :: as) (.ref a :: vs)
theorem ArgL.mono {K : PySem.W.Frag} {t : Option Addr} {F F' : Hp} (e : Same F F') : ∀ {as : List SV} {vs : List V}, ArgL K t F as vs → ArgL K t F' as vs
  | _, _, .nil => .nil
  | _, _, .val r q => .val (r.mono e) (q.mono e)
  | _, _, .tank h q => .tank h (q.mono e)
theorem ArgL.len {K : PySem.W.Frag} {t : Option Addr} {F : Hp} : ∀ {as : List SV} {vs : List V}, ArgL K t F as vs → as.length = vs.length
  | _, _, .nil => rfl
  | _, _, .val _ q => by simp [q.len]
  | _, _, .tank _ q => by simp [q.len]
def tDA (K : PySem.W.Frag) (f : dA) : TA := fun σ H Q => ∃ ρ T t F k, Wd K ρ T t σ F H ∧ f ρ T k ∧ ∀ vs H' F' as T', Wt K T' t F' H' → Grow t F H F' H' → ArgL K t F' as vs → k as T' → Q vs H'
abbrev PEd (X : Cx) (e : Expr) (f : dE) : Prop := PE X e (tD X.K f)
abbrev PTd (X : Cx) (e : Expr) (f : dT) : Prop := PT X e (tDT X.K f)
abbrev PAd (X : Cx) (es : List Expr) (f : dA) : Prop := PA X es (tDA X.K f)
theorem pe_imp {X : Cx} {e : Expr} {t u : TE} (h : PE X e t) (i : ∀ σ H Q, u σ H Q → t σ H Q) : PE X e u := ⟨fun pins s σ H Q I q => h.run pins s σ H Q I (i _ _ _ q)⟩
theorem pt_imp {X : Cx} {e : Expr} {t u : TT} (h : PT X e t) (i : ∀ σ H Q, u σ H Q → t σ H Q) : PT X e u := ⟨fun pins s σ H Q I q => h.run pins s σ H Q I (i _ _ _ q)⟩
theorem pw_imp {X : Cx} {e : Expr} {t u : TT} (h : PW X e t) (i : ∀ σ H Q, u σ H Q → t σ H Q) : PW X e u := ⟨fun wh pins s σ H Q I q => h.run wh pins s σ H Q I (i _ _ _ q)⟩
theorem pa_imp {X : Cx} {e : List Expr} {t u : TA} (h : PA X e t) (i : ∀ σ H Q, u σ H Q → t σ H Q) : PA X e u := ⟨fun pos pins s σ H Q I q => h.run pos pins s σ H Q I (i _ _ _ q)⟩
theorem ps_imp {X : Cx} {e : Stmt} {t u : TS} (h : PS X e t) (i : ∀ K σ H, u K σ H → t K σ H) : PS X e u := ⟨fun pins s σ H K I q => h.run pins s σ H K I (i _ _ _ q)⟩
theorem pss_imp {X : Cx} {e : List Stmt} {t u : TS} (h : PSs X e t) (i : ∀ K σ H, u K σ H → t K σ H) : PSs X e u := ⟨fun pins s σ H K I q => h.run pins s σ H K I (i _ _ _ q)⟩

theorem Fin.then {K : PySem.W.Frag} {t : Option Addr} {F H F' H' : Hp} {k : KD} {Q : VK} (f : Fin K t F H k Q) (g : Grow t F H F' H') : Fin K t F' H' k Q :=
  fun v H2 F2 d T2 w g2 r q => f v H2 F2 d T2 w (g.trans g2) r q
/-- a value that needs nothing new -/
theorem Fin.val {K : PySem.W.Frag} {t : Option Addr} {F H : Hp} {k : KD} {Q : VK} {T : Tk} {d : D} {v : V} (f : Fin K t F H k Q) (w : Wt K T t F H) (r : Rep K F d v) (q : k d T) : Q v H :=
  f v H F d T w (Grow.refl _ _ _) r q
theorem same_upd {F : Hp} {p : Addr} {o : HO} (h : F p = none) : Same F (upd F p o) := fun b u e => by rw [upd_ne (ne_of_none e h)]; exact e
theorem grow_new {t : Option Addr} {F H : Hp} {p : Addr} {o : HO} (s : Same F H) (h : H p = none) : Grow t F H (upd F p o) (upd H p o) := by
  have hF : F p = none := s.free h
  refine ⟨same_upd hF, fun a u e _ => same_upd h a u e, fun a u e n => ?_, fun a u e => ⟨u, same_upd h a u e⟩⟩
  rw [upd_ne (ne_of_none e h)]
  exact n
theorem grow_own {t : Option Addr} {F H : Hp} {p : Addr} {o : HO} (s : Same F H) (h : H p = none) : Grow t F H F (upd H p o) :=
  ⟨Same.refl _, fun a u e _ => same_upd h a u e, fun _ _ _ n => n, fun a u e => ⟨u, same_upd h a u e⟩⟩
theorem same_both {F H : Hp} {p : Addr} {o : HO} (s : Same F H) : Same (upd F p o) (upd H p o) := fun b u e => by
  by_cases hb : b = p
  · subst hb; rw [upd_same] at e ⊢; exact e
  · rw [upd_ne hb] at e ⊢; exact s b u e
theorem wt_new {K : PySem.W.Frag} {T : Tk} {t : Option Addr} {F H : Hp} {p : Addr} {o : HO} (w : Wt K T t F H) (h : H p = none) : Wt K T t (upd F p o) (upd H p o) := by
  refine ⟨same_both w.sub, fun a e => ?_⟩
  obtain ⟨n, vs, hv, r⟩ := w.tank a e
  have na : a ≠ p := ne_of_none hv h
  exact ⟨by rw [upd_ne na]; exact n, vs, by rw [upd_ne na]; exact hv, r.mono (same_upd (w.sub.free h))⟩
theorem wt_own {K : PySem.W.Frag} {T : Tk} {t : Option Addr} {F H : Hp} {p : Addr} {o : HO} (w : Wt K T t F H) (h : H p = none) : Wt K T t F (upd H p o) := by
  refine ⟨w.sub.trans (same_upd h), fun a e => ?_⟩
  obtain ⟨n, vs, hv, r⟩ := w.tank a e
  exact ⟨n, vs, same_upd h a _ hv, r⟩
theorem Fin.tup {K : PySem.W.Frag} {t : Option Addr} {F H : Hp} {k : KD} {Q : VK} {T : Tk} {ds : List D} {vs : List V} {p : Addr} (f : Fin K t F H k Q) (w : Wt K T t F H) (r : RepL K F ds vs) (h : H p = none) (q : k (.tup ds) T) : Q (.ref p) (upd H p (.tup vs)) :=
  f _ _ (upd F p (.tup vs)) _ T (wt_new w h) (grow_new w.sub h) (.tup (.of upd_same) (r.mono (same_upd (w.sub.free h)))) q
theorem Fin.lst {K : PySem.W.Frag} {t : Option Addr} {F H : Hp} {k : KD} {Q : VK} {T : Tk} {ds : List D} {vs : List V} {p : Addr} (f : Fin K t F H k Q) (w : Wt K T t F H) (r : RepL K F ds vs) (h : H p = none) (q : k (.lst ds) T) : Q (.ref p) (upd H p (.lst vs)) :=
  f _ _ (upd F p (.lst vs)) _ T (wt_new w h) (grow_new w.sub h) (.lst upd_same (r.mono (same_upd (w.sub.free h)))) q
theorem Fin.dct0 {K : PySem.W.Frag} {t : Option Addr} {F H : Hp} {k : KD} {Q : VK} {T : Tk} {p : Addr} (f : Fin K t F H k Q) (w : Wt K T t F H) (h : H p = none) (q : k (.dct [] []) T) : Q (.ref p) (upd H p (.dK [])) :=
  f _ _ (upd F p (.dK [])) _ T (wt_new w h) (grow_new w.sub h) (.dct upd_same rfl .nil) q
theorem rep_bl {K : PySem.W.Frag} {F : Hp} {i : Bool} {v : V} (r : Rep K F (.bl i) v) : v = .bl i := by cases r; rfl
theorem rep_tup {K : PySem.W.Frag} {F : Hp} {ds : List D} {v : V} (r : Rep K F (.tup ds) v) : ∃ a vs, v = .ref a ∧ SqT K F a vs ∧ RepL K F ds vs := by cases r with | tup h q => exact ⟨_, _, rfl, h, q⟩
theorem rep_lst {K : PySem.W.Frag} {F : Hp} {ds : List D} {v : V} (r : Rep K F (.lst ds) v) : ∃ a vs, v = .ref a ∧ F a = some (.lst vs) ∧ RepL K F ds vs := by cases r with | lst h q => exact ⟨_, _, rfl, h, q⟩
theorem rep_scr {K : PySem.W.Frag} {F : Hp} {ds : List D} {v : V} (r : Rep K F (.scr ds) v) : ∃ a vs, v = .ref a ∧ SqL K F a vs ∧ RepL K F ds vs := by cases r with | scr h q => exact ⟨_, _, rfl, h, q⟩
end L2.G

namespace L2.G
open PySem PySem.Spec PyProof.Rows

section
variable {X : Cx}
/-! names, constants -/
def dVar (i : Nat) : dE := fun ρ T k => match ρ[i]? with | some (some (.val d)) => k d T | _ => False
theorem d_var (i : Nat) {x : Str} {pos : Pos} (hN : X.N[i]? = some x := by rfl) (hv : Vis X.env.scope x := by first | exact Or.inl rfl | exact Or.inr (Or.inl rfl) | exact Or.inr (Or.inr rfl))
    (hd : (x == ("__debug__" : Str)) = false := by decide) (hc : (x == ("__classdict__" : Str)) = false := by decide) : PEd X (.Name x pos) (dVar i) := by
  refine pe_imp (pe_var hN hv hd hc) fun σ H Q h => ?_
  obtain ⟨ρ, T, t, F, k, w, h, f⟩ := h
  unfold dVar at h
  split at h
  · rename_i d e
    obtain ⟨v, e1, r⟩ := w.slot i _ e
    exact ⟨v, e1, f.val w.wt r h⟩
  · exact h.elim
def dC (d : D) : dE := fun _ T k => k d T
theorem d_const {e : Expr} {v : V} {d : D} (h : PE X e (tC v)) (r : ∀ F, Rep X.K F d v) : PEd X e (dC d) := by
  refine pe_imp h fun σ H Q h => ?_
  obtain ⟨ρ, T, t, F, k, w, h, f⟩ := h
  exact f.val w.wt (r F) h
theorem d_int {i : Int} {j pos} : PEd X (.Constant (.int i) j pos) (dC (.int i)) := d_const pe_int fun _ => .int i
theorem d_bl {i : Bool} {j pos} : PEd X (.Constant (.bool i) j pos) (dC (.bl i)) := d_const pe_bl fun _ => .bl i
theorem d_non {j pos} : PEd X (.Constant .none j pos) (dC .non) := d_const pe_non fun _ => .non
theorem d_str {x : Str} {j pos} : PEd X (.Constant (.str x) j pos) (dC (.str x)) := d_const pe_str fun _ => .str x
/-- a constant of the module -/
theorem d_glob {x : Str} {v : V} {u : Value} {d : D} {pos : Pos} (hg : Gl X x) (hm : X.mg x = some u) (q : RelV v u) (r : ∀ F, Rep X.K F d v) (hd : (x == ("__debug__" : Str)) = false := by decide) : PEd X (.Name x pos) (dC d) :=
  d_const (pe_glob hg hm q hd) r

/-! two places -/
abbrev Op2 := D → D → (D → Prop) → Prop
def dOp (o : Op2) (fa fb : dE) : dE := fun ρ T k => fa ρ T fun x T1 => fb ρ T1 fun y T2 => o x y fun d => k d T2
def OpS (K : PySem.W.Frag) (r : R2) (o : Op2) : Prop := ∀ {t : Option Addr} {F H : Hp} {T : Tk} {x y : D} {v w : V} {k : KD} {Q : VK}, Wt K T t F H → Rep K F x v → Rep K F y w → o x y (fun d => k d T) → Fin K t F H k Q → r v w H Q
/-- two expressions, one behind the other -/
theorem two {K : PySem.W.Frag} {fa fb : dE} {o : D → D → Tk → KD → Prop} {σ : L2.St} {H : Hp} {Q : VK} {R : V → V → Hp → VK → Prop}
    (s : ∀ {t : Option Addr} {F H : Hp} {T : Tk} {x y : D} {v w : V} {k : KD}, Wt K T t F H → Rep K F x v → Rep K F y w → o x y T k → Fin K t F H k Q → R v w H Q)
    (h : tD K (fun ρ T k => fa ρ T fun x T1 => fb ρ T1 fun y T2 => o x y T2 k) σ H Q) : tD K fa σ H fun v H1 => tD K fb σ H1 fun w H2 => R v w H2 Q := by
  obtain ⟨ρ, T, t, F, k, w, h, f⟩ := h
  refine ⟨ρ, T, t, F, _, w, h, fun v H1 F1 x T1 w1 g1 r1 h1 => ?_⟩
  refine ⟨ρ, T1, t, F1, _, w.grow g1 w1, h1, fun u H2 F2 y T2 w2 g2 r2 h2 => ?_⟩
  exact s w2 (r1.mono g2.sub) r2 h2 (f.then (g1.trans g2))
theorem d_op {op : Operator} {r : R2} {o : Op2} {a b : Expr} {fa fb : dE} {pos : Pos} (ho : OpR X (binaryOp op) r) (s : OpS X.K r o) (ha : PEd X a fa) (hb : PEd X b fb) : PEd X (.BinOp a op b pos) (dOp o fa fb) :=
  pe_imp (pe_op ho ha hb) fun σ H Q h => two (o := fun x y T k => o x y fun d => k d T) (fun w r1 r2 q f => s w r1 r2 q f) h
theorem d_cmp {op : CmpOp} {r : R2} {o : Op2} {a b : Expr} {fa fb : dE} {pos : Pos} (ho : OpR X (compareOp op) r) (s : OpS X.K r o) (ha : PEd X a fa) (hb : PEd X b fb) (hm : behindInMarks op b = false) : PEd X (.Compare a [op] [b] pos) (dOp o fa fb) :=
  pe_imp (pe_cmpR ho ha hb hm) fun σ H Q h => two (o := fun x y T k => o x y fun d => k d T) (fun w r1 r2 q f => s w r1 r2 q f) h

/-- ints -/
def oI (g : Int → Int → Int) : Op2 := fun x y k => match x, y with | .int i, .int j => k (.int (g i j)) | _, _ => False
def oIC (C : Int → Int → Prop) (g : Int → Int → Int) : Op2 := fun x y k => match x, y with | .int i, .int j => C i j ∧ k (.int (g i j)) | _, _ => False
def oB (g : Int → Int → Bool) : Op2 := fun x y k => match x, y with | .int i, .int j => k (.bl (g i j)) | _, _ => False
theorem oI_ok {K : PySem.W.Frag} {g : Int → Int → Int} : OpS K (rI0 fun i j => .int (g i j)) (oI g) := by
  intro t F H T x y v w k Q wt r1 r2 q f
  unfold oI at q
  split at q
  · cases r1; cases r2; exact ⟨_, _, rfl, rfl, f.val wt (.int _) q⟩
  · exact q.elim
theorem oIC_ok {K : PySem.W.Frag} {C : Int → Int → Prop} {g : Int → Int → Int} : OpS K (rI C fun i j => .int (g i j)) (oIC C g) := by
  intro t F H T x y v w k Q wt r1 r2 q f
  unfold oIC at q
  split at q
  · cases r1; cases r2; exact ⟨_, _, rfl, rfl, q.1, f.val wt (.int _) q.2⟩
  · exact q.elim
theorem oB_ok {K : PySem.W.Frag} {g : Int → Int → Bool} : OpS K (rI0 fun i j => .bl (g i j)) (oB g) := by
  intro t F H T x y v w k Q wt r1 r2 q f
  unfold oB at q
  split at q
  · cases r1; cases r2; exact ⟨_, _, rfl, rfl, f.val wt (.bl _) q⟩
  · exact q.elim
/-- sizes -/
def MulOk (i j : Int) : Prop := (i.natAbs < 2 ^ 64 ∨ j.natAbs < 2 ^ 64) ∨ (i.natAbs < 2 ^ 400000 ∧ j.natAbs < 2 ^ 400000)
def DivOk (_ j : Int) : Prop := 0 < j ∧ j.natAbs < 2 ^ 9000
theorem mulQ_of {i j : Int} (h : MulOk i j) : IntMulOk i j := by
  rcases h with h | h
  · exact CMul.ok (h.elim (fun h => .inl (by omega)) fun h => .inr (by omega))
  · exact (wide_mul h.1 h.2 (by decide) (by decide) (by decide)).ok
theorem divW_of {i j : Int} (h : DivOk i j) : CDivW i j := wide_div h.1 h.2 (by decide) (by decide)
theorem op_mulQ : OpR X (binaryOp .Mult) (rI MulOk fun i j => .int (i * j)) := opI fun _ _ _ _ _ _ _ hc q => mul_int q (mulQ_of hc)
theorem op_divQ : OpR X (binaryOp .FloorDiv) (rI DivOk fun i j => .int (i / j)) := fun pins s σ H x y v u Q I rx ry ⟨i, j, e1, e2, c, q⟩ => op_fdivW pins s σ H x y v u Q I rx ry ⟨i, j, e1, e2, divW_of c, q⟩
variable {a b : Expr} {fa fb : dE} {pos : Pos}
/-- -a -/
def dNeg (fa : dE) : dE := fun ρ T k => fa ρ T fun x T1 => match x with | .int i => k (.int (-i)) T1 | _ => False
theorem d_neg (ha : PEd X a fa) : PEd X (.UnaryOp .USub a pos) (dNeg fa) := by
  refine pe_imp (pe_un un_neg ha) fun σ H Q h => ?_
  obtain ⟨ρ, T, t, F, k, w, h, f⟩ := h
  refine ⟨ρ, T, t, F, _, w, h, fun v H1 F1 x T1 w1 g1 r1 h1 => ?_⟩
  split at h1
  · cases r1; exact ⟨_, rfl, (f.then g1).val w1 (.int _) h1⟩
  · exact h1.elim

/-! equality of data -/
mutual
def D.py : D → PyData
  | .non => .none | .bl b => .bool b | .int i => .int i | .str x => .str x | .tup xs => .tuple (D.pyL xs) | .lst xs => .list (D.pyL xs) | .obj _ _ _ => .dict [] | .ref _ => .dict [] | .scr _ => .dict [] | .dct _ _ => .dict []
def D.pyL : List D → List PyData
  | [] => [] | x :: r => x.py :: D.pyL r
end
mutual
def D.isPy : D → Bool
  | .non => true | .bl _ => true | .int _ => true | .str _ => true | .tup xs => D.isPyL xs | .lst xs => D.isPyL xs | .obj _ _ _ => false | .ref _ => false | .scr _ => false | .dct _ _ => false
def D.isPyL : List D → Bool
  | [] => true | x :: r => x.isPy && D.isPyL r
end
mutual
theorem Rep.dp {K : PySem.W.Frag} {F H : Hp} (s : Same F H) : ∀ {d : D} {v : V}, Rep K F d v → d.isPy = true → Dp K H v d.py
  | _, _, .non, _ => .non
  | _, _, .bl b, _ => .bl b
  | _, _, .int i, _ => .int i
  | _, _, .str x, _ => .str x
  | _, _, .tup h q, p => .tup (same_t s h) (RepL.dp s q (by simpa [D.isPy] using p))
  | _, _, .lst h q, p => .lst (.of (s _ _ h)) (RepL.dp s q (by simpa [D.isPy] using p))
  | _, _, .obj _ _ _, p => by simp [D.isPy] at p
  | _, _, .ref _ _, p => by simp [D.isPy] at p
  | _, _, .scr _ _, p => by simp [D.isPy] at p
  | _, _, .dct _ _ _, p => by simp [D.isPy] at p
theorem RepL.dp {K : PySem.W.Frag} {F H : Hp} (s : Same F H) : ∀ {ds : List D} {vs : List V}, RepL K F ds vs → D.isPyL ds = true → DpAll K H vs (D.pyL ds)
  | _, _, .nil, _ => .nil
  | _, _, .cons h q, p => by
    simp only [D.isPyL, Bool.and_eq_true] at p
    exact .cons (Rep.dp s h p.1) (RepL.dp s q p.2)
end
/-- data that == compares -/
def D.eqOk (d : D) : Prop := d.isPy = true ∧ SeqAt.shaped d.py = true
def eqD (x y : D) : Bool := PyData.eqv x.py y.py
def oEq : Op2 := fun x y k => x.eqOk ∧ y.eqOk ∧ k (.bl (eqD x y))
def oNe : Op2 := fun x y k => x.eqOk ∧ y.eqOk ∧ k (.bl (!eqD x y))
theorem oEq_ok {K : PySem.W.Frag} : OpS K (rEqD K) oEq := fun wt r1 r2 ⟨p1, p2, q⟩ f => ⟨_, _, r1.dp wt.sub p1.1, r2.dp wt.sub p2.1, p1.2, p2.2, f.val wt (.bl _) q⟩
theorem oNe_ok {K : PySem.W.Frag} : OpS K (rNeD K) oNe := fun wt r1 r2 ⟨p1, p2, q⟩ f => ⟨_, _, r1.dp wt.sub p1.1, r2.dp wt.sub p2.1, p1.2, p2.2, f.val wt (.bl _) q⟩
/-- == of two ints, two texts, None .. (scalars) -/
def oEqI : Op2 := fun x y k => match x, y with | .int i, .int j => k (.bl (decide (i = j))) | .str i, .str j => k (.bl (decide (i = j))) | .bl i, .bl j => k (.bl (decide (i = j))) | _, _ => False
def oNeI : Op2 := fun x y k => match x, y with | .int i, .int j => k (.bl (!decide (i = j))) | .str i, .str j => k (.bl (!decide (i = j))) | .bl i, .bl j => k (.bl (!decide (i = j))) | _, _ => False
theorem oEqI_ok {K : PySem.W.Frag} : OpS K rEq oEqI := by
  intro t F H T x y v w k Q wt r1 r2 q f
  unfold oEqI at q
  split at q
  · cases r1; cases r2; exact ⟨rfl, by have := f.val wt (.bl _) q; simpa using this⟩
  · cases r1; cases r2; exact ⟨rfl, by have := f.val wt (.bl _) q; simpa using this⟩
  · cases r1; cases r2; exact ⟨rfl, by have := f.val wt (.bl _) q; simpa using this⟩
  · exact q.elim
theorem oNeI_ok {K : PySem.W.Frag} : OpS K rNe oNeI := by
  intro t F H T x y v w k Q wt r1 r2 q f
  unfold oNeI at q
  split at q
  · cases r1; cases r2; exact ⟨rfl, by have := f.val wt (.bl _) q; simpa using this⟩
  · cases r1; cases r2; exact ⟨rfl, by have := f.val wt (.bl _) q; simpa using this⟩
  · cases r1; cases r2; exact ⟨rfl, by have := f.val wt (.bl _) q; simpa using this⟩
  · exact q.elim
/-- is None -/
def D.isNon : D → Bool | .non => true | _ => false
def dIsN (fa : dE) : dE := fun ρ T k => fa ρ T fun x T1 => k (.bl x.isNon) T1
def dNotN (fa : dE) : dE := fun ρ T k => fa ρ T fun x T1 => k (.bl (!x.isNon)) T1
/-! tests -/
def dTst (fa : dE) : dT := fun ρ T k => fa ρ T fun x T1 => match x with | .bl c => k c T1 | _ => False
theorem d_tst (ha : PEd X a fa) (he : ∀ whole, isTrue a X.env whole = (do let v ← whole; standAt a.pos; holding [v] (truthy v)) := by intro _; rfl) : PTd X a (dTst fa) := by
  refine pt_imp (pt_val ha he) fun σ H Q h => ?_
  obtain ⟨ρ, T, t, F, k, w, h, f⟩ := h
  refine ⟨ρ, T, t, F, _, w, h, fun v H1 F1 x T1 w1 g1 r1 h1 => ?_⟩
  split at h1
  · cases r1; exact ⟨_, rfl, f _ _ _ _ w1 g1 h1⟩
  · exact h1.elim
/-- a comparison of two, as a test -/
theorem d_tcmp {op : CmpOp} {r : R2} {o : Op2} (ho : OpR X (compareOp op) r) (s : OpS X.K r o) (ha : PEd X a fa) (hb : PEd X b fb) (hm : behindInMarks op b = false) : PTd X (.Compare a [op] [b] pos) (dTst (dOp o fa fb)) := by
  refine pt_imp (pt_cmpR ho ha hb hm) fun σ H Q h => ?_
  obtain ⟨ρ, T, t, F, k, w, h, f⟩ := h
  have h' : tD X.K (dOp o fa fb) σ H (fun x H' => ∃ c, x = .bl c ∧ Q c H') := by
    refine ⟨ρ, T, t, F, _, w, h, fun v H1 F1 x T1 w1 g1 r1 h1 => ?_⟩
    split at h1
    · cases r1; exact ⟨_, rfl, f _ _ _ _ w1 g1 h1⟩
    · exact h1.elim
  exact two (o := fun x y T k => o x y fun d => k d T) (fun w r1 r2 q f => s w r1 r2 q f) h'
abbrev PWd (X : Cx) (e : Expr) (f : dT) : Prop := PW X e (tDT X.K f)
variable {ta tb : dT} {rest : List Expr}
def dAnd (ta tb : dT) : dT := fun ρ T k => ta ρ T fun c T1 => if c = true then tb ρ T1 k else k false T1
def dOr (ta tb : dT) : dT := fun ρ T k => ta ρ T fun c T1 => if c = true then k true T1 else tb ρ T1 k
def dNot (ta : dT) : dT := fun ρ T k => ta ρ T fun c T1 => k (!c) T1
theorem d_tnot (ha : PTd X a ta) : PTd X (.UnaryOp .Not a pos) (dNot ta) := by
  refine pt_imp (pt_not ha) fun σ H Q h => ?_
  obtain ⟨ρ, T, t, F, k, w, h, f⟩ := h
  exact ⟨ρ, T, t, F, _, w, h, fun v H1 F1 T1 w1 g1 h1 => f _ _ _ _ w1 g1 h1⟩
theorem d_w1a (ha : PTd X a ta) : PWd X (.BoolOp .And [a] pos) ta := pw_and1 ha
theorem d_w1o (ha : PTd X a ta) : PWd X (.BoolOp .Or [a] pos) ta := pw_or1 ha
theorem d_wand (ha : PTd X a ta) (hb : PWd X (.BoolOp .And (b :: rest) pos) tb) : PWd X (.BoolOp .And (a :: b :: rest) pos) (dAnd ta tb) := by
  refine pw_imp (pw_and ha hb) fun σ H Q h => ?_
  obtain ⟨ρ, T, t, F, k, w, h, f⟩ := h
  refine ⟨ρ, T, t, F, _, w, h, fun c H1 F1 T1 w1 g1 h1 => ?_⟩
  cases c with
  | true => exact ⟨ρ, T1, t, F1, k, w.grow g1 w1, h1, fun b H2 F2 T2 w2 g2 h2 => f _ _ _ _ w2 (g1.trans g2) h2⟩
  | false => exact f _ _ _ _ w1 g1 h1
theorem d_wor (ha : PTd X a ta) (hb : PWd X (.BoolOp .Or (b :: rest) pos) tb) : PWd X (.BoolOp .Or (a :: b :: rest) pos) (dOr ta tb) := by
  refine pw_imp (pw_or ha hb) fun σ H Q h => ?_
  obtain ⟨ρ, T, t, F, k, w, h, f⟩ := h
  refine ⟨ρ, T, t, F, _, w, h, fun c H1 F1 T1 w1 g1 h1 => ?_⟩
  cases c with
  | false => exact ⟨ρ, T1, t, F1, k, w.grow g1 w1, h1, fun b H2 F2 T2 w2 g2 h2 => f _ _ _ _ w2 (g1.trans g2) h2⟩
  | true => exact f _ _ _ _ w1 g1 h1
/-- and, or, not as values of truth -/
def dAndV (fa fb : dE) : dE := fun ρ T k => fa ρ T fun x T1 => match x with | .bl c => if c = true then fb ρ T1 k else k (.bl false) T1 | _ => False
def dOrV (fa fb : dE) : dE := fun ρ T k => fa ρ T fun x T1 => match x with | .bl c => if c = true then k (.bl true) T1 else fb ρ T1 k | _ => False
def dNotV (fa : dE) : dE := fun ρ T k => fa ρ T fun x T1 => match x with | .bl c => k (.bl (!c)) T1 | _ => False
theorem d_v1 {op} (ha : PEd X a fa) : PEd X (.BoolOp op [a] pos) fa := pe_one ha
theorem d_andV (ha : PEd X a fa) (hb : PEd X (.BoolOp .And (b :: rest) pos) fb) : PEd X (.BoolOp .And (a :: b :: rest) pos) (dAndV fa fb) := by
  refine pe_imp (pe_and ha hb) fun σ H Q h => ?_
  obtain ⟨ρ, T, t, F, k, w, h, f⟩ := h
  refine ⟨ρ, T, t, F, _, w, h, fun v H1 F1 x T1 w1 g1 r1 h1 => ?_⟩
  split at h1
  · rename_i c
    cases r1
    refine ⟨c, rfl, ?_⟩
    cases c with
    | true => exact ⟨ρ, T1, t, F1, k, w.grow g1 w1, h1, f.then g1⟩
    | false => exact (f.then g1).val w1 (.bl _) h1
  · exact h1.elim
theorem d_orV (ha : PEd X a fa) (hb : PEd X (.BoolOp .Or (b :: rest) pos) fb) : PEd X (.BoolOp .Or (a :: b :: rest) pos) (dOrV fa fb) := by
  refine pe_imp (pe_or ha hb) fun σ H Q h => ?_
  obtain ⟨ρ, T, t, F, k, w, h, f⟩ := h
  refine ⟨ρ, T, t, F, _, w, h, fun v H1 F1 x T1 w1 g1 r1 h1 => ?_⟩
  split at h1
  · rename_i c
    cases r1
    refine ⟨c, rfl, ?_⟩
    cases c with
    | false => exact ⟨ρ, T1, t, F1, k, w.grow g1 w1, h1, f.then g1⟩
    | true => exact (f.then g1).val w1 (.bl _) h1
  · exact h1.elim
theorem d_notV (ha : PEd X a fa) : PEd X (.UnaryOp .Not a pos) (dNotV fa) := by
  refine pe_imp (pe_not ha) fun σ H Q h => ?_
  obtain ⟨ρ, T, t, F, k, w, h, f⟩ := h
  refine ⟨ρ, T, t, F, _, w, h, fun v H1 F1 x T1 w1 g1 r1 h1 => ?_⟩
  split at h1
  · cases r1; exact ⟨_, rfl, (f.then g1).val w1 (.bl _) h1⟩
  · exact h1.elim
def dIf (t : dT) (fa fb : dE) : dE := fun ρ T k => t ρ T fun c T1 => if c = true then fa ρ T1 k else fb ρ T1 k
theorem d_if {c : Expr} {tc : dT} (hc : PTd X c tc) (ha : PEd X a fa) (hb : PEd X b fb) : PEd X (.IfExp c a b pos) (dIf tc fa fb) := by
  refine pe_imp (pe_ifExp hc ha hb) fun σ H Q h => ?_
  obtain ⟨ρ, T, t, F, k, w, h, f⟩ := h
  refine ⟨ρ, T, t, F, _, w, h, fun c H1 F1 T1 w1 g1 h1 => ?_⟩
  cases c with
  | true => exact ⟨ρ, T1, t, F1, k, w.grow g1 w1, h1, f.then g1⟩
  | false => exact ⟨ρ, T1, t, F1, k, w.grow g1 w1, h1, f.then g1⟩

/-! arguments, displays -/
def aNil : dA := fun _ T k => k [] T
def aCons (fe : dE) (fr : dA) : dA := fun ρ T k => fe ρ T fun d T1 => fr ρ T1 fun as T2 => k (.val d :: as) T2
def aTank (i : Nat) (fr : dA) : dA := fun ρ T k => (match ρ[i]? with | some (some .tank) => True | _ => False) ∧ fr ρ T fun as T2 => k (.tank :: as) T2
variable {es : List Expr} {fr : dA}
theorem a_nil : PAd X [] aNil := by
  refine pa_imp pa_nil fun σ H Q h => ?_
  obtain ⟨ρ, T, t, F, k, w, h, f⟩ := h
  exact f _ _ _ _ _ w.wt (Grow.refl _ _ _) .nil h
theorem a_cons {e : Expr} {fe : dE} (he : PEd X e fe) (hr : PAd X es fr) (hs : starEach (e :: es) X.env = (false, eval e X.env) :: starEach es X.env := by rfl) : PAd X (e :: es) (aCons fe fr) := by
  refine pa_imp (pa_cons he hr hs) fun σ H Q h => ?_
  obtain ⟨ρ, T, t, F, k, w, h, f⟩ := h
  refine ⟨ρ, T, t, F, _, w, h, fun v H1 F1 x T1 w1 g1 r1 h1 => ?_⟩
  refine ⟨ρ, T1, t, F1, _, w.grow g1 w1, h1, fun vs H2 F2 as T2 w2 g2 r2 h2 => ?_⟩
  exact f _ _ _ _ _ w2 (g1.trans g2) (.val (r1.mono g2.sub) r2) h2
theorem a_tank (i : Nat) {x : Str} {p : Pos} (hr : PAd X es fr) (hN : X.N[i]? = some x := by rfl) (hv : Vis X.env.scope x := by first | exact Or.inl rfl | exact Or.inr (Or.inl rfl) | exact Or.inr (Or.inr rfl))
    (hd : (x == ("__debug__" : Str)) = false := by decide) (hc : (x == ("__classdict__" : Str)) = false := by decide)
    (hs : starEach (.Name x p :: es) X.env = (false, eval (.Name x p) X.env) :: starEach es X.env := by rfl) : PAd X (.Name x p :: es) (aTank i fr) := by
  refine pa_imp (pa_cons (pe_var hN hv hd hc) hr hs) fun σ H Q h => ?_
  obtain ⟨ρ, T, t, F, k, w, ⟨h0, h⟩, f⟩ := h
  split at h0
  · rename_i e
    obtain ⟨v, e1, a, e2, e3⟩ := w.slot i _ e
    subst e3
    exact ⟨_, e1, ρ, T, t, F, _, w, h, fun vs H2 F2 as T2 w2 g2 r2 h2 => f _ _ _ _ _ w2 g2 (.tank e2 r2) h2⟩
  · exact h0.elim
def vals? : List SV → Option (List D)
  | [] => some []
  | .val d :: r => (vals? r).map (d :: ·)
  | _ :: _ => none
theorem ArgL.vals {K : PySem.W.Frag} {t : Option Addr} {F : Hp} : ∀ {as : List SV} {vs : List V} {ds : List D}, ArgL K t F as vs → vals? as = some ds → RepL K F ds vs
  | _, _, _, .nil, e => by cases e; exact .nil
  | _, _, ds, .val r q, e => by
    simp only [vals?, Option.map_eq_some_iff] at e
    obtain ⟨es, h1, rfl⟩ := e
    exact .cons r (q.vals h1)
  | _, _, _, .tank _ _, e => by simp [vals?] at e
def dTup (fr : dA) : dE := fun ρ T k => fr ρ T fun as T1 => match vals? as with | some ds => ds.length ≤ 1000000 ∧ k (.tup ds) T1 | none => False
def dLst (fr : dA) : dE := fun ρ T k => fr ρ T fun as T1 => match vals? as with | some ds => ds.length ≤ 1000000 ∧ k (.lst ds) T1 | none => False
theorem small_line {n : Nat} (h : n ≤ 1000000) : n ≤ sizeLine := by rw [sizeLine_eq]; omega
theorem d_tup {x1} (h : PAd X es fr) : PEd X (.Tuple es x1 pos) (dTup fr) := by
  refine pe_imp (pe_tup h) fun σ H Q h => ?_
  obtain ⟨ρ, T, t, F, k, w, h, f⟩ := h
  refine ⟨ρ, T, t, F, _, w, h, fun vs H1 F1 as T1 w1 g1 r1 h1 => ?_⟩
  split at h1
  · rename_i ds e
    have r := r1.vals e
    exact ⟨by rw [← r.len]; exact small_line h1.1, fun p hp => (f.then g1).tup w1 r hp h1.2⟩
  · exact h1.elim
theorem d_lst (h : PAd X es fr) : PEd X (.List es pos) (dLst fr) := by
  refine pe_imp (pe_lst h) fun σ H Q h => ?_
  obtain ⟨ρ, T, t, F, k, w, h, f⟩ := h
  refine ⟨ρ, T, t, F, _, w, h, fun vs H1 F1 as T1 w1 g1 r1 h1 => ?_⟩
  split at h1
  · rename_i ds e
    have r := r1.vals e
    exact ⟨by rw [← r.len]; exact small_line h1.1, fun p hp => (f.then g1).lst w1 r hp h1.2⟩
  · exact h1.elim

/-! items, slices -/
def oIx : Op2 := fun x y k => match x, y with
  | .tup xs, .int i => (match atI xs i with | some d => k d | none => False)
  | .lst xs, .int i => (match atI xs i with | some d => k d | none => False)
  | .scr xs, .int i => (match atI xs i with | some d => k d | none => False)
  | _, _ => False
theorem atI_rep {K : PySem.W.Frag} {F : Hp} {xs : List D} {vs : List V} {i : Int} {d : D} (r : RepL K F xs vs) (h : atI xs i = some d) : ∃ v, atI vs i = some v ∧ Rep K F d v := by
  unfold atI at h ⊢
  rw [← r.len]
  cases e : ixN xs.length i with
  | none => rw [e] at h; cases h
  | some j =>
    rw [e] at h
    exact r.get h
theorem oIx_ok {K : PySem.W.Frag} : OpS K (fun x y H Q => rIxL K x y H Q ∨ rIxT K x y H Q) oIx := by
  intro t F H T x y v w k Q wt r1 r2 q f
  unfold oIx at q
  split at q
  · split at q
    · rename_i d e
      obtain ⟨a, vs, rfl, h, r⟩ := rep_tup r1
      cases r2
      obtain ⟨v, e1, rv⟩ := atI_rep r e
      exact .inr ⟨a, vs, _, v, rfl, rfl, same_t wt.sub h, e1, f.val wt rv q⟩
    · exact q.elim
  · split at q
    · rename_i d e
      obtain ⟨a, vs, rfl, h, r⟩ := rep_lst r1
      cases r2
      obtain ⟨v, e1, rv⟩ := atI_rep r e
      exact .inl ⟨a, vs, _, v, rfl, rfl, .of (wt.sub _ _ h), e1, f.val wt rv q⟩
    · exact q.elim
  · split at q
    · rename_i d e
      obtain ⟨a, vs, rfl, h, r⟩ := rep_scr r1
      cases r2
      obtain ⟨v, e1, rv⟩ := atI_rep r e
      exact .inl ⟨a, vs, _, v, rfl, rfl, wt.sub.seq h, e1, f.val wt rv q⟩
    · exact q.elim
  · exact q.elim
end
end L2.G

namespace L2.G
open PySem PySem.Spec PyProof.Rows

/-! statements: F0, H0 the entry's heaps -/
structure Ws (K : PySem.W.Frag) (ρ : En) (T : Tk) (t : Option Addr) (σ : L2.St) (F0 H0 F H : Hp) : Prop where
  w : Wd K ρ T t σ F H
  g : Grow t F0 H0 F H
  fr : ∀ (i : Nat) xs l, ρ[i]? = some (some (.own xs)) → σ[i]? = some (some (.ref l)) → H0 l = none
theorem Ws.grow {K : PySem.W.Frag} {ρ : En} {T T' : Tk} {t : Option Addr} {σ : L2.St} {F0 H0 F H F' H' : Hp} (w : Ws K ρ T t σ F0 H0 F H) (g : Grow t F H F' H') (w' : Wt K T' t F' H') : Ws K ρ T' t σ F0 H0 F' H' :=
  ⟨w.w.grow g w', w.g.trans g, w.fr⟩
def FinS (K : PySem.W.Frag) (t : Option Addr) (F0 H0 F : Hp) (k : En → Tk → Prop) (n : L2.St → Hp → Prop) : Prop := ∀ ρ T σ F' H', Ws K ρ T t σ F0 H0 F' H' → Same F F' → k ρ T → n σ H'
def FinR (K : PySem.W.Frag) (t : Option Addr) (F0 H0 : Hp) (k : KD) (n : VK) : Prop := ∀ v H F d T, Wt K T t F H → Grow t F0 H0 F H → Rep K F d v → k d T → n v H
structure FinE (K : PySem.W.Frag) (t : Option Addr) (F0 H0 F : Hp) (k : dEnds) (E : Ends) : Prop where
  nx : FinS K t F0 H0 F k.nx E.nx
  rt : FinR K t F0 H0 k.rt E.rt
  bk : FinS K t F0 H0 F k.bk E.bk
  ct : FinS K t F0 H0 F k.ct E.ct
theorem FinS.to {K : PySem.W.Frag} {t : Option Addr} {F0 H0 F F1 : Hp} {k : En → Tk → Prop} {n : L2.St → Hp → Prop} (f : FinS K t F0 H0 F k n) (s : Same F F1) : FinS K t F0 H0 F1 k n := fun ρ T σ F' H' w e q => f ρ T σ F' H' w (s.trans e) q
theorem FinE.to {K : PySem.W.Frag} {t : Option Addr} {F0 H0 F F1 : Hp} {k : dEnds} {E : Ends} (f : FinE K t F0 H0 F k E) (s : Same F F1) : FinE K t F0 H0 F1 k E := ⟨f.nx.to s, f.rt, f.bk.to s, f.ct.to s⟩
def tDS (K : PySem.W.Frag) (f : dS) : TS := fun E σ H => ∃ ρ T t F0 H0 F k, Ws K ρ T t σ F0 H0 F H ∧ f k ρ T ∧ FinE K t F0 H0 F k E
abbrev PSd (X : Cx) (st : Stmt) (f : dS) : Prop := PS X st (tDS X.K f)
abbrev PSsd (X : Cx) (st : List Stmt) (f : dS) : Prop := PSs X st (tDS X.K f)

section
variable {X : Cx} {st : Stmt} {rest : List Stmt} {f g : dS} {e : Expr} {fe : dE} {pos : Pos}
def sSeq (f g : dS) : dS := fun k ρ T => f { k with nx := g k } ρ T
theorem ss_cons (h1 : PSd X st f) (h2 : PSsd X rest g) : PSsd X (st :: rest) (sSeq f g) := by
  refine pss_imp (pss_cons h1 h2) fun E σ H h => ?_
  obtain ⟨ρ, T, t, F0, H0, F, k, w, h, fe⟩ := h
  exact ⟨ρ, T, t, F0, H0, F, _, w, h, ⟨fun ρ' T' σ' F' H' w' s' h' => ⟨ρ', T', t, F0, H0, F', k, w', h', fe.to s'⟩, fe.rt, fe.bk, fe.ct⟩⟩
theorem ss_one (h1 : PSd X st f) : PSsd X [st] f := pss_one h1
theorem ss_nil : PSsd X [] (fun k ρ T => k.nx ρ T) := by
  refine pss_imp pss_nil fun E σ H h => ?_
  obtain ⟨ρ, T, t, F0, H0, F, k, w, h, fe⟩ := h
  exact fe.nx _ _ _ _ _ w (Same.refl _) h
theorem s_break : PSd X (.Break pos) (fun k ρ T => k.bk ρ T) := by
  refine ps_imp ps_break fun E σ H h => ?_
  obtain ⟨ρ, T, t, F0, H0, F, k, w, h, fe⟩ := h
  exact fe.bk _ _ _ _ _ w (Same.refl _) h
def sRet (fe : dE) : dS := fun k ρ T => fe ρ T k.rt
theorem s_ret (he : PEd X e fe) : PSd X (.Return (some e) pos) (sRet fe) := by
  refine ps_imp (ps_ret he) fun E σ H h => ?_
  obtain ⟨ρ, T, t, F0, H0, F, k, w, h, fe⟩ := h
  exact ⟨ρ, T, t, F, _, w.w, h, fun v H1 F1 d T1 w1 g1 r1 h1 => fe.rt _ _ _ _ _ w1 (w.g.trans g1) r1 h1⟩
def sExpr (fe : dE) : dS := fun k ρ T => fe ρ T fun _ T1 => k.nx ρ T1
def sIf (c : dT) (f g : dS) : dS := fun k ρ T => c ρ T fun b T1 => if b = true then f k ρ T1 else g k ρ T1
theorem s_if {c : Expr} {tc : dT} {a b : List Stmt} (hc : PTd X c tc) (ha : PSsd X a f) (hb : PSsd X b g) : PSd X (.If c a b pos) (sIf tc f g) := by
  refine ps_imp (ps_if hc ha hb) fun E σ H h => ?_
  obtain ⟨ρ, T, t, F0, H0, F, k, w, h, fe⟩ := h
  refine ⟨ρ, T, t, F, _, w.w, h, fun b H1 F1 T1 w1 g1 h1 => ?_⟩
  cases b with
  | true => exact ⟨ρ, T1, t, F0, H0, F1, k, w.grow g1 w1, h1, fe.to g1.sub⟩
  | false => exact ⟨ρ, T1, t, F0, H0, F1, k, w.grow g1 w1, h1, fe.to g1.sub⟩
/-! storing a value in a slot -/
theorem getSet {α : Type} {l : List α} {i j : Nat} {a : α} {b : α} (h : (l.set i a)[j]? = some b) : (i = j ∧ i < l.length ∧ b = a) ∨ (i ≠ j ∧ l[j]? = some b) := by
  by_cases e : i = j
  · subst e
    by_cases hl : i < l.length
    · rw [List.getElem?_set_self hl] at h; cases h; exact .inl ⟨rfl, hl, rfl⟩
    · rw [List.getElem?_eq_none (by simpa using hl)] at h; cases h
  · rw [List.getElem?_set_ne e] at h; exact .inr ⟨e, h⟩
theorem Wd.put {K : PySem.W.Frag} {ρ : En} {T : Tk} {t : Option Addr} {σ : L2.St} {F H : Hp} (w : Wd K ρ T t σ F H) {i : Nat} {d : D} {v : V} (r : Rep K F d v) : Wd K (ρ.set i (some (.val d))) T t (σ.set i (some v)) F H := by
  refine ⟨w.wt, by simpa using w.len, fun j s e => ?_, fun j j' xs ys l e1 e2 e3 e4 => ?_⟩
  · rcases getSet e with ⟨rfl, hl, e'⟩ | ⟨ne, e'⟩
    · cases e'
      exact ⟨v, by rw [List.getElem?_set_self (by rw [← w.len]; exact hl)], r⟩
    · obtain ⟨u, h1, h2⟩ := w.slot j s e'
      exact ⟨u, by rw [List.getElem?_set_ne ne]; exact h1, h2⟩
  · rcases getSet e1 with ⟨_, _, z⟩ | ⟨n1, e1⟩
    · cases z
    · rcases getSet e2 with ⟨_, _, z⟩ | ⟨n2, e2⟩
      · cases z
      · rw [List.getElem?_set_ne n1] at e3
        rw [List.getElem?_set_ne n2] at e4
        exact w.apart j j' xs ys l e1 e2 e3 e4
theorem Ws.put {K : PySem.W.Frag} {ρ : En} {T : Tk} {t : Option Addr} {σ : L2.St} {F0 H0 F H : Hp} (w : Ws K ρ T t σ F0 H0 F H) {i : Nat} {d : D} {v : V} (r : Rep K F d v) : Ws K (ρ.set i (some (.val d))) T t (σ.set i (some v)) F0 H0 F H := by
  refine ⟨w.w.put r, w.g, fun j xs l e1 e2 => ?_⟩
  rcases getSet e1 with ⟨_, _, z⟩ | ⟨ne, e1⟩
  · cases z
  · rw [List.getElem?_set_ne ne] at e2
    exact w.fr j xs l e1 e2

/-! targets -/
abbrev dG := D → En → Tk → (En → Tk → Prop) → Prop
def tDG (K : PySem.W.Frag) (g : dG) : TG := fun v σ H Q => ∃ ρ T t F0 H0 F d k, Ws K ρ T t σ F0 H0 F H ∧ Rep K F d v ∧ g d ρ T k ∧ FinS K t F0 H0 F k Q
abbrev PGd (X : Cx) (tg : Expr) (g : dG) : Prop := PG X tg (tDG X.K g)
abbrev dGs := List D → En → Tk → (En → Tk → Prop) → Prop
def tDGs (K : PySem.W.Frag) (g : dGs) : TGs := fun vs σ H Q => ∃ ρ T t F0 H0 F ds k, Ws K ρ T t σ F0 H0 F H ∧ RepL K F ds vs ∧ g ds ρ T k ∧ FinS K t F0 H0 F k Q
theorem pg_imp {tg : Expr} {t u : TG} (h : PG X tg t) (i : ∀ v σ H Q, u v σ H Q → t v σ H Q) : PG X tg u := ⟨fun pins s σ H v u Q I r q => h.run pins s σ H v u Q I r (i _ _ _ _ q)⟩
theorem pgs_imp {tg : List Expr} {t u : TGs} (h : PGs X tg t) (i : ∀ v σ H Q, u v σ H Q → t v σ H Q) : PGs X tg u := ⟨fun pins s σ H v u Q I r q => h.run pins s σ H v u Q I r (i _ _ _ _ q)⟩
def gN (i : Nat) : dG := fun d ρ T k => k (ρ.set i (some (.val d))) T
theorem g_name (i : Nat) {x : Str} (hN : X.N.Nodup) (hi : X.N[i]? = some x := by rfl) (hx : Loc X.env.scope x := by first | exact Or.inl rfl | exact Or.inr rfl) (hf : X.fn x = true ∨ X.env.scope.names.lookup x = some .local := by first | exact .inl rfl | exact .inr rfl | assumption) : PGd X (.Name x pos) (gN i) := by
  refine pg_imp (pg_name hN hi hx hf) fun v σ H Q h => ?_
  obtain ⟨ρ, T, t, F0, H0, F, d, k, w, r, h, f⟩ := h
  exact f _ _ _ _ _ (w.put r) (Same.refl _) h
def gsNil : dGs := fun ds ρ T k => ds = [] ∧ k ρ T
def gsCons (g : dG) (gs : dGs) : dGs := fun ds ρ T k => match ds with | d :: r => g d ρ T fun ρ' T' => gs r ρ' T' k | [] => False
theorem gs_nil : PGs X [] (tDGs X.K gsNil) := by
  refine pgs_imp pgs_nil fun vs σ H Q h => ?_
  obtain ⟨ρ, T, t, F0, H0, F, ds, k, w, r, ⟨e, h⟩, f⟩ := h
  subst e
  cases r
  exact ⟨rfl, f _ _ _ _ _ w (Same.refl _) h⟩
theorem gs_cons {tg : Expr} {tgs : List Expr} {g : dG} {gs : dGs} (h1 : PGd X tg g) (h2 : PGs X tgs (tDGs X.K gs)) (hs : (assignEach (tg :: tgs) X.env).map (·.2) = assign tg X.env :: (assignEach tgs X.env).map (·.2) := by rfl) : PGs X (tg :: tgs) (tDGs X.K (gsCons g gs)) := by
  refine pgs_imp (pgs_cons h1 h2 hs) fun vs σ H Q h => ?_
  obtain ⟨ρ, T, t, F0, H0, F, ds, k, w, r, h, f⟩ := h
  cases r with
  | nil => exact h.elim
  | cons r1 rr => exact ⟨_, _, rfl, ρ, T, t, F0, H0, F, _, _, w, r1, h, fun ρ' T' σ' F' H' w' s' h' => ⟨ρ', T', t, F0, H0, F', _, k, w', rr.mono s', h', f.to s'⟩⟩
def gT (n : Nat) (gs : dGs) : dG := fun d ρ T k => match d with | .tup ds => ds.length = n ∧ gs ds ρ T k | _ => False
def sAsg (fe : dE) (g : dG) : dS := fun k ρ T => fe ρ T fun d T1 => g d ρ T1 k.nx
theorem asg_ok {K : PySem.W.Frag} {g : dG} {σ : L2.St} {H : Hp} {E : Ends} (h : tDS K (sAsg fe g) E σ H) : tD K fe σ H fun v H1 => tDG K g v σ H1 E.nx := by
  obtain ⟨ρ, T, t, F0, H0, F, k, w, h, fe⟩ := h
  refine ⟨ρ, T, t, F, _, w.w, h, fun v H1 F1 d T1 w1 g1 r1 h1 => ?_⟩
  exact ⟨ρ, T1, t, F0, H0, F1, d, _, w.grow g1 w1, r1, h1, fe.nx.to g1.sub⟩
theorem s_asg {tg : Expr} {g : dG} (he : PEd X e fe) (hg : PGd X tg g) (hs : swapsWithSole [tg] e pos.line X.env = pure false := by rfl) (hw : swappedStores [tg] e X.env = pure none := by rfl)
    (h1 : (assignEach [tg] X.env).map (·.2) = [assign tg X.env] := by rfl) : PSd X (.Assign [tg] e pos) (sAsg fe g) :=
  ps_imp (ps_asg he hg hs hw h1) fun _ _ _ h => asg_ok h
theorem s_set (i : Nat) {x : Str} {pos' : Pos} (hN : X.N.Nodup) (he : PEd X e fe) (hi : X.N[i]? = some x := by rfl) (hx : Loc X.env.scope x := by first | exact Or.inl rfl | exact Or.inr rfl) (hs : swapsWith e (some (.Name x pos')) pos.line X.env = pure false := by rfl)
    (hf : X.fn x = true ∨ X.env.scope.names.lookup x = some .local := by first | exact .inl rfl | exact .inr rfl | assumption) : PSd X (.Assign [.Name x pos'] e pos) (sAsg fe (gN i)) := by
  refine ps_imp (ps_set hN hi hx he hs hf) fun E σ H h => ?_
  obtain ⟨ρ, T, t, F0, H0, F, k, w, h, fe⟩ := h
  exact ⟨ρ, T, t, F, _, w.w, h, fun v H1 F1 d T1 w1 g1 r1 h1 => fe.nx _ _ _ _ _ ((w.grow g1 w1).put r1) g1.sub h1⟩
/-- a, b = x, y -/
def sPar (i j : Nat) (fr : dA) : dS := fun k ρ T => fr ρ T fun as T1 => match as with | [.val d, .val e] => k.nx ((ρ.set i (some (.val d))).set j (some (.val e))) T1 | _ => False
theorem s_par (i j : Nat) {x y : Str} {a b : Expr} {fr : dA} {px py pt : Pos} {kt k2 pt2} (hc : X.calm = true) (hN : X.N.Nodup) (ha : PAd X [a, b] fr)
    (hi : X.N[i]? = some x := by rfl) (hj : X.N[j]? = some y := by rfl) (hij : i ≠ j := by decide) (hx : X.env.scope.names.lookup x = some .local := by rfl) (hy : X.env.scope.names.lookup y = some .local := by rfl)
    (hw : swappedStores [.Tuple [.Name x px, .Name y py] kt pt] (.Tuple [a, b] k2 pt2) X.env = pure (some [x, y]) := by rfl)
    (hs : swapsWithSole [.Tuple [.Name x px, .Name y py] kt pt] (.Tuple [a, b] k2 pt2) pos.line X.env = pure false := by rfl) : PSd X (.Assign [.Tuple [.Name x px, .Name y py] kt pt] (.Tuple [a, b] k2 pt2) pos) (sPar i j fr) := by
  refine ps_imp (ps_par hc hN hi hj hij hx hy ha hw hs) fun E σ H h => ?_
  obtain ⟨ρ, T, t, F0, H0, F, k, w, h, fe⟩ := h
  refine ⟨ρ, T, t, F, _, w.w, h, fun vs H1 F1 as T1 w1 g1 r1 h1 => ?_⟩
  split at h1
  · cases r1 with
    | val r1 rr =>
      cases rr with
      | val r2 rr =>
        cases rr
        exact ⟨_, _, rfl, fe.nx _ _ _ _ _ (((w.grow g1 w1).put r1).put r2) g1.sub h1⟩
  · exact h1.elim

/-! loops -/
def sWhile (c : dT) (f : dS) : dS := fun k ρ T => ∃ W : Nat → En → Tk → Prop, (∃ m, W m ρ T) ∧ ∀ m ρ T, W m ρ T → c ρ T fun b T1 => if b = true then
  f { nx := fun ρ' T' => ∃ m', m' < m ∧ W m' ρ' T', rt := k.rt, bk := k.nx, ct := fun ρ' T' => ∃ m', m' < m ∧ W m' ρ' T' } ρ T1 else k.nx ρ T1
theorem s_while {c : Expr} {tc : dT} {body : List Stmt} (hp : PassesOwn (model X.prog X.w) X.A X.env X.xe) (hc : PTd X c tc) (hb : PSsd X body f) : PSd X (.While c body [] pos) (sWhile tc f) := by
  refine ps_imp (ps_while hp hc hb) fun E σ H h => ?_
  obtain ⟨ρ, T, t, F0, H0, F, k, w, ⟨W, ⟨m0, w0⟩, turn⟩, fe⟩ := h
  refine ⟨fun m σ H => ∃ ρ T F', Ws X.K ρ T t σ F0 H0 F' H ∧ Same F F' ∧ W m ρ T, ⟨m0, ρ, T, F, w, Same.refl _, w0⟩, fun m σ H h => ?_⟩
  obtain ⟨ρ, T, F', w, sF, hW⟩ := h
  refine ⟨ρ, T, t, F', _, w.w, turn m ρ T hW, fun b H1 F1 T1 w1 g1 h1 => ?_⟩
  have s1 : Same F F1 := sF.trans g1.sub
  cases b with
  | false => exact fe.nx _ _ _ _ _ (w.grow g1 w1) s1 h1
  | true =>
    rw [if_pos rfl] at h1
    refine iteT ⟨fun σ' H' => ∃ m', m' < m ∧ ∃ ρ T F', Ws X.K ρ T t σ' F0 H0 F' H' ∧ Same F F' ∧ W m' ρ T, fun σ' H' h => h, ρ, T1, t, F0, H0, F1, _, w.grow g1 w1, h1, ?_⟩
    exact ⟨fun ρ' T' σ' F' H' w' s' ⟨m', lt, hw'⟩ => ⟨m', lt, ρ', T', F', w', s1.trans s', hw'⟩, fe.rt, fe.nx.to s1, fun ρ' T' σ' F' H' w' s' ⟨m', lt, hw'⟩ => ⟨m', lt, ρ', T', F', w', s1.trans s', hw'⟩⟩
/-- over some items -/
def forL (g : dG) (f : dS) (k : dEnds) : List D → En → Tk → Prop
  | [], ρ, T => k.nx ρ T
  | d :: r, ρ, T => g d ρ T fun ρ1 T1 => f { nx := forL g f k r, rt := k.rt, bk := k.nx, ct := forL g f k r } ρ1 T1
def D.items : D → Option (List D) | .tup xs => some xs | .lst xs => some xs | _ => none
/-- range(lo, lo + n) -/
def intsL (lo : Int) : Nat → List D
  | 0 => [] | n + 1 => .int lo :: intsL (lo + 1) n
theorem intsL_len : ∀ (n : Nat) (lo : Int), (intsL lo n).length = n
  | 0, _ => rfl
  | n + 1, lo => by simp [intsL, intsL_len n]
theorem intsL_get : ∀ (n : Nat) (lo : Int) (i : Nat), i < n → (intsL lo n)[i]? = some (.int (lo + i))
  | 0, _, _, h => absurd h (Nat.not_lt_zero _)
  | n + 1, lo, 0, _ => by simp [intsL]
  | n + 1, lo, i + 1, h => by
    show (intsL (lo + 1) n)[i]? = _
    rw [intsL_get n (lo + 1) i (by omega)]
    congr 2
    omega
end
end L2.G

namespace L2.G
open PySem PySem.Spec PyProof.Rows

/-! a def's promise where no text is being written (for repr) -/
structure GFn (P : Program) (w : World) (K : PySem.W.Frag) (mg : Str → Option Value) (base : Heap) (CX : CXT) (n : Nat) (f : Addr) (fd : FuncData) (ps : List Str) (sp : Sp) : Prop where
  len : ∀ vs H Q E, sp vs H Q E → vs.length = ps.length
  go : ∀ (A : Around) (fs : List Env) (s : Shared) (H : Hp) (args : Args) (us : List Value) (vs : List V) (Q : VK) (E : XK),
    Room n A ∧ A.guards = some [] → Env0 P w K mg base A fs s H → BindsTo s fd args (ps.zip us) → Vals vs us → sp vs H Q E → codeAny (model P w) A (.call (.ref f) args) (CR CX fs P w H s Q E) s

section
variable {P : Program} {w : World} {K : PySem.W.Frag} {mg : Str → Option Value} {base : Heap} {CX : CXT}
theorem GFn.mono {m n : Nat} {f : Addr} {fd : FuncData} {ps : List Str} {sp : Sp} (G : GFn P w K mg base CX m f fd ps sp) (h : m ≤ n) : GFn P w K mg base CX n f fd ps sp :=
  ⟨G.len, fun A fs s H args us vs Q E r => G.go A fs s H args us vs Q E ⟨r.1.mono h, r.2⟩⟩
theorem GFn.imp {n : Nat} {f : Addr} {fd : FuncData} {ps : List Str} {sp sp' : Sp} (G : GFn P w K mg base CX n f fd ps sp) (h : ∀ vs H Q E, sp' vs H Q E → sp vs H Q E) : GFn P w K mg base CX n f fd ps sp' :=
  ⟨fun vs H Q E q => G.len vs H Q E (h _ _ _ _ q), fun A fs s H args us vs Q E r e b v q => G.go A fs s H args us vs Q E r e b v (h _ _ _ _ q)⟩
/-- by the body -/
theorem gfn_body {n : Nat} {f : Addr} {name qual : Str} {params : Arguments} {body : List Stmt} {scope : Scope} {dV kV doc pm cdv ct oc : Value} {an od : Option Addr} {osl : Array (Option Value)} {N ps : List Str} {sp : Sp}
    (lk : K.lookup f = some ⟨oc, od, .func (PySem.W.fnOf name qual params body scope dV kV doc pm an cdv ct), osl⟩) (hcd : PySem.W.codeIn K cdv qual = true) (S : FnScope N ps scope) (len : ∀ vs H Q E, sp vs H Q E → vs.length = ps.length)
    (hb : ∀ (A : Around) (fs : List Env) (s : Shared) (H : Hp) (vs : List V) (Q : VK) (E : XK), Room n (A.deeper (envOfC qual scope s.heap.objs.size f cdv)) → A.guards = some [] → sp vs H Q E →
      ∃ t, PSs (cxOf CX P w K mg base N qual scope f cdv A fs s H E) body t ∧ t { nx := fun _ H' => Q .non H', rt := Q } (start N vs) H) :
    GFn P w K mg base CX (n + 1) f (PySem.W.fnOf name qual params body scope dV kV doc pm an cdv ct) ps sp := by
  constructor
  · exact len
  intro A fs s H args us vs Q E room e0 bd r hsp
  obtain ⟨hr, hgd⟩ := room
  have hl := len _ _ _ _ hsp
  have up : ∀ b o, base.get? b = some o → s.heap.get? b = some o := fun b o e => (e0.bs b o e).1
  have KX : K.In s.heap := e0.mod.kin.keeps up
  have hk : ∀ y ∈ ps.zip us, scope.names.lookup y.1 = some .local ∨ (scope.names.lookup y.1 = some .cell ∧ ((cellsFrom (s.heap.objs.size + 1) scope.names []).lookup y.1).isSome = true) := by
    rintro ⟨m, v⟩ hy
    cases S.par m (List.of_mem_zip hy).1 with
    | inl q => exact .inl q
    | inr q => exact .inr ⟨q, PySem.W.cellsFrom_some _ _ _ (.inl q)⟩
  apply codeAny_call_function hr.depth (KX _ _ lk) rfl S.co S.gen rfl (PySem.W.codeRec_of KX hcd)
  apply bd
  apply wpAny_newFunctionEnv_cells S.kind hk
  intro env he s1 x
  subst he
  constructor
  · exact (e0.mod.nolimit.keeps up).keeps x.toInCall.keep
  apply codeAny_func
  obtain ⟨t, ht, hq⟩ := hb A fs s H vs Q E (hr.deeper _) hgd hsp
  have I := inv_start (CX := CX) (E := E) (f := f) (cd := cdv) (qual := qual) S hr.hd e0 hl r x
  have last : ∀ {σ' : L2.St} {H' : Hp} {v : V} {u : Value} {s' : Shared}, Inv (cxOf CX P w K mg base N qual scope f cdv A fs s H E) [] σ' H' s' → RelV v u → Q v H' → CE fs P w H s Q u s' :=
    fun {_ H' v u _} J rv q => ⟨v, H', J.os, J.bare, J.base, J.hok, rv, q⟩
  apply wpAny_mono (ht.run [] s1 (start N vs) H _ I hq)
  · intro fl s' hs
    cases fl with
    | next => obtain ⟨_, _, J, q⟩ := hs; exact last (v := V.non) (u := Value.none) J rfl q
    | brk => obtain ⟨_, _, _, q⟩ := hs; exact q.elim
    | cont => obtain ⟨_, _, _, q⟩ := hs; exact q.elim
    | ret u => obtain ⟨v, _, _, J, rv, q⟩ := hs; exact last J rv q
  · exact fun e s' hs => hs
end

section
variable {X : Cx} {CX : CXT} {n : Nat} {f : Addr} {fd : FuncData} {ps ks : List Str} {sp : Sp} {E : XK} {x : Str} {p pos : Pos} {e : Expr} {es : List Expr} {kws : List Keyword} {t tk : TA} {g : List Value → List Value → List Value} {gV : List V → List V → List V}
/-- the call, however the arguments are bound -/
theorem g_run (G : GFn X.prog X.w X.K X.mg X.base CX n f fd ps sp) (hr : Room n X.A) (hgd : X.A.guards = some []) (hx : Passes CX X E) {pins : List (Addr × Obj)} {σ : L2.St} {H : Hp} {s : Shared} {Q : VK} {args : Args} {us : List Value} {vs : List V}
    (I : Inv X pins σ H s) (r : Vals vs us) (b : BindsTo s fd args (ps.zip us)) (h : sp vs H Q E) : wpAny (model X.prog X.w) X.A (call (.ref f) args.pos args.kw) (EP X pins σ Q) X.xe s := by
  apply wpAny_call
  apply codeAny_mono (G.go X.A X.stack s H args us vs Q E ⟨hr, hgd⟩ I.env0 b r h)
  intro r s' hq
  match r, hq with
  | .error e, hq => exact hx pins σ H s e s' I hq
  | .ok (.ret u), hq => exact I.after hq
theorem g_call (G : GFn X.prog X.w X.K X.mg X.base CX n f fd ps sp) (hr : Room n X.A) (hgd : X.A.guards = some []) (hg : Gl X x) (hm : X.mg x = some (.ref f)) (hk : PySem.W.keepIn X.K (.ref f) = true) (hb : Binds X.K fd ps []) (hx : Passes CX X E)
    (ha : PA X (e :: es) t) (hd : (x == ("__debug__" : Str)) = false := by decide) (he : starEach (e :: es) X.env = (false, eval e X.env) :: starEach es X.env := by rfl) (hp : (backTo pos (starEach es X.env)).any (·.1) = false := by rfl) :
    PE X (.Call (.Name x p) (e :: es) [] pos) (tCall sp [] E t) := by
  constructor
  intro pins s σ H Q I h
  apply wpAny_Call_Name_kw
  apply ld_glob I hg hm _ hd
  apply PySem.W.callWith_K (h₀ := X.base) I.ok.mod.kin hk _ he hp
  apply thn (ha.run pos pins s σ H _ I h)
  rintro us s1 ⟨vs, H1, I1, r, q⟩
  refine ⟨I1.kIn, ?_⟩
  have q : sp (vs ++ []) H1 Q E := q
  rw [List.append_nil] at q
  have hl : us.length = ps.length := by rw [← r.length]; exact G.len _ _ _ _ q
  have b := hb s1 us I1.kIn (by rw [List.append_nil]; exact hl)
  rw [List.append_nil] at b
  exact g_run G hr hgd hx (args := ⟨us, []⟩) I1 r b q
end

/-! defs over data -/
abbrev Sem := List SV → Tk → KD → Prop
def spD (K : PySem.W.Frag) (n : Nat) (sem : Sem) : Sp := fun vs H Q _ => vs.length = n ∧ ∃ F t T as k, ArgL K t F as vs ∧ Wt K T t F H ∧ sem as T k ∧ Fin K t F H k Q
/-- the def x stands in the module and does sem -/
def Ok (P : Program) (w : World) (K : PySem.W.Frag) (mg : Str → Option Value) (base : Heap) (n : Nat) (x : Str) (ps : List Str) (sem : Sem) : Prop :=
  ∃ f fd, mg x = some (.ref f) ∧ PySem.W.keepIn K (.ref f) = true ∧ Binds K fd ps [] ∧ (∀ (s : Shared) (ws : List Value), K.In s.heap → ws.length = ps.length → BindsTo s fd ⟨[], ps.zip ws⟩ (ps.zip ws)) ∧ GFn P w K mg base CX0 n f fd ps (spD K ps.length sem) ∧ ∃ oc od osl, K.lookup f = some ⟨oc, od, .func fd, osl⟩
def Df (K : PySem.W.Frag) (mg : Str → Option Value) (x : Str) (st : Stmt) : Prop := ∃ f fd, Fun K x x st f fd ∧ mg x = some (.ref f)
theorem Ok.mono {P : Program} {w : World} {K : PySem.W.Frag} {mg : Str → Option Value} {base : Heap} {m n : Nat} {x : Str} {ps : List Str} {sem : Sem} (h : Ok P w K mg base m x ps sem) (l : m ≤ n) : Ok P w K mg base n x ps sem :=
  let ⟨f, fd, h1, h2, h3, h4, h5, h6⟩ := h; ⟨f, fd, h1, h2, h3, h4, h5.mono l, h6⟩
/-- a weaker reading -/
theorem Ok.imp {P : Program} {w : World} {K : PySem.W.Frag} {mg : Str → Option Value} {base : Heap} {n : Nat} {x : Str} {ps : List Str} {sem sem' : Sem} (h : Ok P w K mg base n x ps sem) (i : ∀ as T k, sem' as T k → sem as T k) : Ok P w K mg base n x ps sem' :=
  let ⟨f, fd, h1, h2, h3, h4, h5, h6⟩ := h; ⟨f, fd, h1, h2, h3, h4, h5.imp (fun vs H Q E ⟨q1, F, t, T, as, k, a, b, c, d⟩ => ⟨q1, F, t, T, as, k, a, b, i _ _ _ c, d⟩), h6⟩
abbrev CxD (P : Program) (w : World) (K : PySem.W.Frag) (mg : Str → Option Value) (base : Heap) (N : List Str) (x : Str) (st : Stmt) (f : Addr) (cdv : Value) (A : Around) (fs : List Env) (s : Shared) (H : Hp) (E : XK) : Cx :=
  (cxOf CX0 P w K mg base N x (defScope st) f cdv A fs s H E).nox
/-- what a body does, from the arguments -/
def start' (N : List Str) (as : List SV) : En := as.map some ++ List.replicate (N.length - as.length) none
def semOf (N : List Str) (b : dS) : Sem := fun as T k => b { nx := fun _ T => k .non T, rt := k, bk := fun _ _ => False, ct := fun _ _ => False } (start' N as) T
theorem argGet {K : PySem.W.Frag} {t : Option Addr} {F H : Hp} : ∀ {as : List SV} {vs : List V} (r : ArgL K t F as vs) (i : Nat) s, as[i]? = some s → (∃ v, vs[i]? = some v ∧ SlotR K t F H s v) ∧ ∀ xs, s ≠ .own xs
  | _, _, .nil, _, _, e => by simp at e
  | _, _, .val r q, 0, s, e => by simp at e; subst e; exact ⟨⟨_, rfl, r⟩, fun _ z => nomatch z⟩
  | _, _, .tank r q, 0, s, e => by simp at e; subst e; exact ⟨⟨_, rfl, _, r, rfl⟩, fun _ z => nomatch z⟩
  | _, _, .val r q, i + 1, s, e => argGet q i s (by simpa using e)
  | _, _, .tank r q, i + 1, s, e => argGet q i s (by simpa using e)
theorem startGet {N : List Str} {as : List SV} {i : Nat} {s : SV} (h : (start' N as)[i]? = some (some s)) : as[i]? = some s := by
  unfold start' at h
  by_cases hi : i < as.length
  · rw [List.getElem?_append_left (by simpa using hi), List.getElem?_map] at h
    cases e : as[i]? with
    | none => rw [e] at h; cases h
    | some a => rw [e] at h; cases h; rfl
  · rw [List.getElem?_append_right (by simpa using hi), List.getElem?_replicate] at h
    split at h <;> cases h
theorem wd_start {K : PySem.W.Frag} {N : List Str} {t : Option Addr} {F H : Hp} {T : Tk} {as : List SV} {vs : List V} (r : ArgL K t F as vs) (w : Wt K T t F H) : Wd K (start' N as) T t (start N vs) F H := by
  refine ⟨w, by simp [start', start, r.len], fun i s e => ?_, fun i j xs ys l e1 _ _ _ => ?_⟩
  · have e' := startGet e
    obtain ⟨⟨v, h1, h2⟩, _⟩ := argGet (H := H) r i s e'
    refine ⟨v, ?_, h2⟩
    have hi := (List.getElem?_eq_some_iff.mp h1).1
    unfold start
    rw [List.getElem?_append_left (by simpa using hi), List.getElem?_map, h1]
    rfl
  · exact absurd rfl ((argGet (H := H) r i _ (startGet e1)).2 xs)
theorem ok_def {P : Program} {w : World} {K : PySem.W.Frag} {mg : Str → Option Value} {base : Heap} {n : Nat} {x : Str} {st : Stmt} {N ps : List Str} {b : dS} (h : Df K mg x st) (S : FnScope N ps (defScope st))
    (hb1 : ∀ (kV doc pm : Value) (an : Option Addr) (cdv ct : Value) (us : List Value), us.length = ps.length → bindArgs (PySem.W.fnOf x x (defArgs st) (defBody st) (defScope st) .none kV doc pm an cdv ct) ⟨us, []⟩ = pure (ps.zip us))
    (hb2 : ∀ (kV doc pm : Value) (an : Option Addr) (cdv ct : Value) (us : List Value), us.length = ps.length → bindArgs (PySem.W.fnOf x x (defArgs st) (defBody st) (defScope st) .none kV doc pm an cdv ct) ⟨[], ps.zip us⟩ = pure (ps.zip us))
    (body : ∀ (f : Addr) (cdv : Value) (A : Around) (fs : List Env) (s : Shared) (H : Hp) (E : XK), Room n (A.deeper (envOfC x (defScope st) s.heap.objs.size f cdv)) → A.guards = some [] → PSsd (CxD P w K mg base N x st f cdv A fs s H E) (defBody st) b) :
    Ok P w K mg base (n + 1) x ps (semOf N b) := by
  obtain ⟨f, fd, Fn, hm⟩ := h
  refine ⟨f, fd, hm, Fn.kp, Fn.binds hb1, ?_, ?_, by obtain ⟨oc, od, kV, doc, pm, an, cdv, ct, osl, _, lk, _⟩ := Fn.ex; exact ⟨oc, od, osl, lk⟩⟩
  · obtain ⟨oc, od, kV, doc, pm, an, cdv, ct, osl, rfl, lk, hcd⟩ := Fn.ex
    exact fun s ws _ hl => .of_eq (hb2 kV doc pm an cdv ct ws hl)
  · obtain ⟨oc, od, kV, doc, pm, an, cdv, ct, osl, rfl, lk, hcd⟩ := Fn.ex
    refine gfn_body lk hcd S (fun vs H Q E q => q.1) fun A fs s H vs Q E hr hgd hsp => ?_
    obtain ⟨hl, F, t, T, as, k, ar, wt, h, fin⟩ := hsp
    refine ⟨_, (body f cdv A fs s H E hr hgd).nox, start' N as, T, t, F, H, F, _, ⟨wd_start ar wt, Grow.refl _ _ _, fun i xs l e1 _ => ?_⟩, h, ?_⟩
    · exact absurd rfl ((argGet (H := H) ar i _ (startGet e1)).2 xs)
    · exact ⟨fun ρ T' σ' F' H' w' _ q => fin .non H' F' .non T' w'.w.wt w'.g .non q, fun v H' F' d T' w' g' r' q => fin v H' F' d T' w' g' r' q, fun _ _ _ _ _ _ _ q => q.elim, fun _ _ _ _ _ _ _ q => q.elim⟩

section
variable {X : Cx} {n : Nat} {x : Str} {ps : List Str} {sem : Sem} {p pos : Pos} {e : Expr} {es : List Expr} {kws : List Keyword} {fr : dA}
def dCall (n : Nat) (sem : Sem) (fr : dA) : dE := fun ρ T k => fr ρ T fun as T1 => as.length = n ∧ sem as T1 k
theorem call_ok {K : PySem.W.Frag} {E : XK} {σ : L2.St} {H : Hp} {Q : VK} (h : tD K (dCall n sem fr) σ H Q) : tCall (spD K n sem) [] E (tDA K fr) σ H Q := by
  obtain ⟨ρ, T, t, F, k, w, h, f⟩ := h
  refine ⟨ρ, T, t, F, _, w, h, fun vs H1 F1 as T1 w1 g1 r1 h1 => ?_⟩
  show spD K n sem (vs ++ []) H1 Q E
  rw [List.append_nil]
  exact ⟨by rw [← r1.len]; exact h1.1, F1, t, T1, as, k, r1, w1, h1.2, f.then g1⟩
theorem d_call (G : Ok X.prog X.w X.K X.mg X.base n x ps sem) (hr : Room n X.A) (hgd : X.A.guards = some []) (ha : PAd X (e :: es) fr) (hg : Gl X x := by rfl)
    (hd : (x == ("__debug__" : Str)) = false := by decide) (he : starEach (e :: es) X.env = (false, eval e X.env) :: starEach es X.env := by rfl) (hp : (backTo pos (starEach es X.env)).any (·.1) = false := by rfl) : PEd X (.Call (.Name x p) (e :: es) [] pos) (dCall ps.length sem fr) := by
  obtain ⟨f, fd, h1, h2, h3, _, h5, _⟩ := G
  exact pe_imp (g_call (E := E0) h5 hr hgd hg h1 h2 h3 pass0 ha hd he hp) fun _ _ _ h => call_ok h
end
end L2.G

namespace L2.G
open PySem PySem.Spec PyProof.Rows

/-! built-in functions -/
section
variable {X : Cx} {x : Str} {p pos : Pos} {e : Expr} {es : List Expr} {fr : dA} {id T : String} {r : List V → Hp → VK → Prop}
def dBlt (o : List D → (D → Prop) → Prop) (fr : dA) : dE := fun ρ T k => fr ρ T fun as T1 => match vals? as with | some ds => o ds fun d => k d T1 | none => False
def BltS (K : PySem.W.Frag) (r : List V → Hp → VK → Prop) (o : List D → (D → Prop) → Prop) : Prop := ∀ {t : Option Addr} {F H : Hp} {T : Tk} {ds : List D} {vs : List V} {k : KD} {Q : VK}, Wt K T t F H → RepL K F ds vs → o ds (fun d => k d T) → Fin K t F H k Q → r vs H Q
theorem blt_ok {K : PySem.W.Frag} {o : List D → (D → Prop) → Prop} (s : BltS K r o) {σ : L2.St} {H : Hp} {Q : VK} (h : tD K (dBlt o fr) σ H Q) : tCB r (tDA K fr) σ H Q := by
  obtain ⟨ρ, T, t, F, k, w, h, f⟩ := h
  refine ⟨ρ, T, t, F, _, w, h, fun vs H1 F1 as T1 w1 g1 r1 h1 => ?_⟩
  split at h1
  · rename_i ds e
    exact s w1 (r1.vals e) h1 (f.then g1)
  · exact h1.elim
theorem d_blt {o : List D → (D → Prop) → Prop} (hc : CallR X (.builtin id) r) (s : BltS X.K r o) (hm : X.mg x = none) (ha : PAd X (e :: es) fr) (hv : bootBuiltins x = some (.builtin id) := by decide +kernel) (hg : Gl X x := by rfl) (hn : x ≠ "__name__" := by decide) (hd : (x == ("__debug__" : Str)) = false := by decide)
    (he : starEach (e :: es) X.env = (false, eval e X.env) :: starEach es X.env := by rfl) (hp : (backTo pos (starEach es X.env)).any (·.1) = false := by rfl) : PEd X (.Call (.Name x p) (e :: es) [] pos) (dBlt o fr) :=
  pe_imp (pe_callB hc hg hm hv ha hn hd he hp) fun _ _ _ h => blt_ok s h
theorem d_blty {o : List D → (D → Prop) → Prop} (hc : CallR X (.type T) r) (s : BltS X.K r o) (hm : X.mg x = none) (ha : PAd X (e :: es) fr) (hv : bootBuiltins x = some (.type T) := by decide +kernel) (hg : Gl X x := by rfl) (hn : x ≠ "__name__" := by decide) (hd : (x == ("__debug__" : Str)) = false := by decide)
    (he : starEach (e :: es) X.env = (false, eval e X.env) :: starEach es X.env := by rfl) (hp : (backTo pos (starEach es X.env)).any (·.1) = false := by rfl) : PEd X (.Call (.Name x p) (e :: es) [] pos) (dBlt o fr) :=
  pe_imp (pe_callTy hc hg hm hv ha hn hd he hp) fun _ _ _ h => blt_ok s h
/-- a name of the module for a built-in function (gcd of math) -/
theorem d_bfun {o : List D → (D → Prop) → Prop} (hc : CallR X (.builtin id) r) (s : BltS X.K r o) (hm : X.mg x = some (.builtin id)) (ha : PAd X (e :: es) fr) (hg : Gl X x := by rfl) (hd : (x == ("__debug__" : Str)) = false := by decide)
    (he : starEach (e :: es) X.env = (false, eval e X.env) :: starEach es X.env := by rfl) (hp : (backTo pos (starEach es X.env)).any (·.1) = false := by rfl) : PEd X (.Call (.Name x p) (e :: es) [] pos) (dBlt o fr) :=
  pe_imp (pe_callBfun hc hg hm ha hd he hp) fun _ _ _ h => blt_ok s h

/-! len -/
def oLen (ds : List D) (k : D → Prop) : Prop := match ds with | [.tup xs] => k (.int xs.length) | [.lst xs] => k (.int xs.length) | [.scr xs] => k (.int xs.length) | _ => False
theorem oLen_ok {K : PySem.W.Frag} : BltS K (fun xs H Q => ∃ p ys, xs = [.ref p] ∧ (SqL K H p ys ∨ SqT K H p ys) ∧ Q (.int ys.length) H) oLen := by
  intro t F H T ds vs k Q wt r q f
  unfold oLen at q
  split at q
  · cases r with
    | cons r rr =>
      cases rr
      obtain ⟨a, ws, rfl, h, r⟩ := rep_tup r
      rw [r.len] at q
      exact ⟨a, ws, rfl, .inr (same_t wt.sub h), f.val wt (.int _) q⟩
  · cases r with
    | cons r rr =>
      cases rr
      obtain ⟨a, ws, rfl, h, r⟩ := rep_lst r
      rw [r.len] at q
      exact ⟨a, ws, rfl, .inl (.of (wt.sub _ _ h)), f.val wt (.int _) q⟩
  · cases r with
    | cons r rr =>
      cases rr
      obtain ⟨a, ws, rfl, h, r⟩ := rep_scr r
      rw [r.len] at q
      exact ⟨a, ws, rfl, .inl (wt.sub.seq h), f.val wt (.int _) q⟩
  · exact q.elim
/-! functions of ints -/
def o1 (g : Int → Int) (ds : List D) (k : D → Prop) : Prop := match ds with | [.int i] => k (.int (g i)) | _ => False
def o2 (g : Int → Int → Int) (ds : List D) (k : D → Prop) : Prop := match ds with | [.int i, .int j] => k (.int (g i j)) | _ => False
theorem o1_ok {K : PySem.W.Frag} {g : Int → Int} : BltS K (fun xs H Q => ∃ i, xs = [.int i] ∧ Q (.int (g i)) H) (o1 g) := by
  intro t F H T ds vs k Q wt r q f
  unfold o1 at q
  split at q
  · cases r with
    | cons r rr => cases rr; cases r; exact ⟨_, rfl, f.val wt (.int _) q⟩
  · exact q.elim
theorem o2_ok {K : PySem.W.Frag} {g : Int → Int → Int} : BltS K (fun xs H Q => ∃ i j, xs = [.int i, .int j] ∧ Q (.int (g i j)) H) (o2 g) := by
  intro t F H T ds vs k Q wt r q f
  unfold o2 at q
  split at q
  · cases r with
    | cons r rr => cases rr with | cons r2 rr => cases rr; cases r; cases r2; exact ⟨_, _, rfl, f.val wt (.int _) q⟩
  · exact q.elim
/-- int(e) of an int, of a truth value -/
def oIntB (ds : List D) (k : D → Prop) : Prop := match ds with | [.int i] => k (.int i) | [.bl b] => k (.int (if b then 1 else 0)) | _ => False
theorem oIntB_ok {K : PySem.W.Frag} : BltS K (fun xs H Q => (∃ i, xs = [.int i] ∧ Q (.int i) H) ∨ ∃ k, xs = [.bl k] ∧ Q (.int (if k then 1 else 0)) H) oIntB := by
  intro t F H T ds vs k Q wt r q f
  unfold oIntB at q
  split at q
  · cases r with
    | cons r rr => cases rr; cases r; exact .inl ⟨_, rfl, f.val wt (.int _) q⟩
  · cases r with
    | cons r rr => cases rr; cases r; exact .inr ⟨_, rfl, f.val wt (.int _) q⟩
  · exact q.elim
/-! isqrt -/
/-! divmod -/
def DmOk (i j : Int) : Prop := 0 < j ∧ j.natAbs < 2 ^ 9000
def oDivmod (ds : List D) (k : D → Prop) : Prop := match ds with | [.int i, .int j] => DmOk i j ∧ k (.tup [.int (i / j), .int (i % j)]) | _ => False
theorem call_divmodQ : CallR X (.builtin "divmod") (fun xs H Q => ∃ i j, xs = [.int i, .int j] ∧ DmOk i j ∧ ∀ p, H p = none → Q (.ref p) (upd H p (.tup [.int (i / j), .int (i % j)]))) :=
  fun pins s σ H xs us Q I r ⟨i, j, e, c, q⟩ => call_divmodW pins s σ H xs us Q I r ⟨i, j, e, ⟨c.1, PyProof.noPylong_of_log2 (PySem.Flt.log2_lt_of (by decide) c.2)⟩, q⟩
theorem oDivmod_ok {K : PySem.W.Frag} : BltS K (fun xs H Q => ∃ i j, xs = [.int i, .int j] ∧ DmOk i j ∧ ∀ p, H p = none → Q (.ref p) (upd H p (.tup [.int (i / j), .int (i % j)]))) oDivmod := by
  intro t F H T ds vs k Q wt r q f
  unfold oDivmod at q
  split at q
  · cases r with
    | cons r rr => cases rr with | cons r2 rr => cases rr; cases r; cases r2; exact ⟨_, _, rfl, q.1, fun p hp => f.tup wt (.cons (.int _) (.cons (.int _) .nil)) hp q.2⟩
  · exact q.elim
/-! all, any, sum of a list -/
def bls? : List D → Option (List Bool)
  | [] => some [] | .bl b :: r => (bls? r).map (b :: ·) | _ :: _ => none
def nums? : List D → Option (List Int)
  | [] => some [] | .int b :: r => (nums? r).map (b :: ·) | _ :: _ => none
theorem bls_some : ∀ {ds : List D} {bs : List Bool}, bls? ds = some bs → ds = bs.map D.bl
  | [], bs, e => by cases e; rfl
  | d :: ds, bs, e => by
    have ih := fun cs => bls_some (ds := ds) (bs := cs)
    cases d with
    | bl b =>
      simp only [bls?, Option.map_eq_some_iff] at e
      obtain ⟨cs, h1, rfl⟩ := e
      rw [ih cs h1]
      rfl
    | _ => exact absurd e (by simp [bls?])
theorem bls_inv {K : PySem.W.Frag} {F : Hp} : ∀ {bs : List Bool} {vs : List V}, RepL K F (bs.map D.bl) vs → vs = bs.map V.bl
  | [], _, r => by cases r; rfl
  | b :: bs, _, r => by
    cases r with
    | cons r q => rw [rep_bl r, bls_inv q]; rfl
theorem bls_rep {K : PySem.W.Frag} {F : Hp} {ds : List D} {vs : List V} {bs : List Bool} (r : RepL K F ds vs) (e : bls? ds = some bs) : vs = bs.map V.bl := by
  rw [bls_some e] at r
  exact bls_inv r
def oAll (ds : List D) (k : D → Prop) : Prop := match ds with | [.lst xs] => (match bls? xs with | some bs => k (.bl (bs.all _root_.id)) | none => False) | _ => False
theorem oAll_ok {K : PySem.W.Frag} : BltS K (rAll K) oAll := by
  intro t F H T ds vs k Q wt r q f
  unfold oAll at q
  split at q
  · split at q
    · rename_i e
      cases r with
      | cons r rr =>
        cases rr
        obtain ⟨a, ws, rfl, h, r⟩ := rep_lst r
        have e2 := bls_rep r e
        subst e2
        exact ⟨a, _, rfl, .of (wt.sub _ _ h), f.val wt (.bl _) q⟩
    · exact q.elim
  · exact q.elim
/-! tuple(xs), list(xs) -/
def oTuple (ds : List D) (k : D → Prop) : Prop := match ds with | [.lst xs] => k (.tup xs) | [.tup xs] => k (.tup xs) | _ => False
def oList (ds : List D) (k : D → Prop) : Prop := match ds with | [.lst xs] => k (.lst xs) | [.tup xs] => k (.lst xs) | [.scr xs] => k (.lst xs) | _ => False
theorem oTuple_ok {K : PySem.W.Frag} : BltS K (fun xs H Q => ∃ p ys, xs = [.ref p] ∧ ((SqL K H p ys ∧ ∀ l, H l = none → Q (.ref l) (upd H l (.tup ys))) ∨ (SqT K H p ys ∧ Q (.ref p) H))) oTuple := by
  intro t F H T ds vs k Q wt r q f
  unfold oTuple at q
  split at q
  · cases r with
    | cons r rr =>
      cases rr
      obtain ⟨a, ws, rfl, h, r⟩ := rep_lst r
      exact ⟨a, ws, rfl, .inl ⟨.of (wt.sub _ _ h), fun l hl => f.tup wt r hl q⟩⟩
  · cases r with
    | cons r rr =>
      cases rr
      have r0 := r
      obtain ⟨a, ws, rfl, h, r⟩ := rep_tup r
      exact ⟨a, ws, rfl, .inr ⟨same_t wt.sub h, f.val wt r0 q⟩⟩
  · exact q.elim
theorem oList_ok {K : PySem.W.Frag} : BltS K (fun xs H Q => ∃ p ys, xs = [.ref p] ∧ (SqL K H p ys ∨ SqT K H p ys) ∧ ∀ l, H l = none → Q (.ref l) (upd H l (.lst ys))) oList := by
  intro t F H T ds vs k Q wt r q f
  unfold oList at q
  split at q
  · cases r with
    | cons r rr =>
      cases rr
      obtain ⟨a, ws, rfl, h, r⟩ := rep_lst r
      exact ⟨a, ws, rfl, .inl (.of (wt.sub _ _ h)), fun l hl => f.lst wt r hl q⟩
  · cases r with
    | cons r rr =>
      cases rr
      obtain ⟨a, ws, rfl, h, r⟩ := rep_tup r
      exact ⟨a, ws, rfl, .inr (same_t wt.sub h), fun l hl => f.lst wt r hl q⟩
  · cases r with
    | cons r rr =>
      cases rr
      obtain ⟨a, ws, rfl, h, r⟩ := rep_scr r
      exact ⟨a, ws, rfl, .inl (wt.sub.seq h), fun l hl => f.lst wt r hl q⟩
  · exact q.elim
/-! repr -/
def D.shOk (d : D) : Prop := d.eqOk ∧ d.py.showable = true ∧ d.py.shown.length ≤ sizeLine
def oRepr (ds : List D) (k : D → Prop) : Prop := match ds with | [.tup xs] => D.shOk (.tup xs) ∧ k (.str (D.py (.tup xs)).shown) | [.lst xs] => D.shOk (.lst xs) ∧ k (.str (D.py (.lst xs)).shown) | [.int i] => i.natAbs.log2 < 1920 ∧ k (.str (toString i)) | [.bl b] => k (.str (if b then "True" else "False")) | [.non] => k (.str "None") | _ => False
theorem call_reprD (hgd : X.A.guards = some []) (hu : X.A.units + 66 < cLine) : CallR X (.builtin "repr") (fun xs H Q => (∃ a d, xs = [.ref a] ∧ Dp X.K H (.ref a) d ∧ SeqAt.shaped d = true ∧ d.showable = true ∧ d.shown.length ≤ sizeLine ∧ Q (.str d.shown) H) ∨ ((∃ i, xs = [.int i] ∧ i.natAbs.log2 < 1920 ∧ Q (.str (toString i)) H) ∨ (∃ b : Bool, xs = [.bl b] ∧ Q (.str (if b then "True" else "False")) H) ∨ (xs = [.non] ∧ Q (.str "None") H))) := by
  intro pins s σ H xs us Q I r h
  rcases h with h | h
  · obtain ⟨a, d, rfl, hd, hs, hw, hl, q⟩ := h
    obtain ⟨u, rfl, ru⟩ := vals1 r
    obtain ⟨as, rd⟩ := Dp.reads I d _ u hd ru
    have e : u = Value.ref a := ru
    subst e
    have dl := SeqAt.depth_of_shaped hs
    refine repr_of_reads' rd hw (PyData.noDict_hsm (PyData.hasDict_of_canLay d (SeqAt.canLay_of_shaped hs))) hgd (by omega) (fun _ _ e => e) (fun h' u tk hk => ?_) hl
    exact ⟨.str _, H, I.kept (h' := h') (t' := tk) hk, ⟨_, rfl⟩, q⟩
  · rcases h with h | ⟨b, rfl, q⟩ | ⟨rfl, q⟩
    · exact SkE.call_repr_int pins s σ H xs us Q I r h
    · obtain ⟨u, rfl, ru⟩ := vals1 r
      cases ru
      exact PySem.P.repr_of_bool ⟨.str _, H, I.tok _, ⟨_, rfl⟩, q⟩
    · obtain ⟨u, rfl, ru⟩ := vals1 r
      cases ru
      exact PySem.P.repr_of_none ⟨.str _, H, I.tok _, ⟨_, rfl⟩, q⟩
theorem oRepr_ok {K : PySem.W.Frag} : BltS K (fun xs H Q => (∃ a d, xs = [.ref a] ∧ Dp K H (.ref a) d ∧ SeqAt.shaped d = true ∧ d.showable = true ∧ d.shown.length ≤ sizeLine ∧ Q (.str d.shown) H) ∨ ((∃ i, xs = [.int i] ∧ i.natAbs.log2 < 1920 ∧ Q (.str (toString i)) H) ∨ (∃ b : Bool, xs = [.bl b] ∧ Q (.str (if b then "True" else "False")) H) ∨ (xs = [.non] ∧ Q (.str "None") H))) oRepr := by
  intro t F H T ds vs k Q wt r q f
  unfold oRepr at q
  split at q
  · cases r with
    | cons r rr =>
      cases rr
      have r0 := r
      obtain ⟨a, ws, rfl, h, r⟩ := rep_tup r
      exact .inl ⟨a, _, rfl, r0.dp wt.sub q.1.1.1, q.1.1.2, q.1.2.1, q.1.2.2, f.val wt (.str _) q.2⟩
  · cases r with
    | cons r rr =>
      cases rr
      have r0 := r
      obtain ⟨a, ws, rfl, h, r⟩ := rep_lst r
      exact .inl ⟨a, _, rfl, r0.dp wt.sub q.1.1.1, q.1.1.2, q.1.2.1, q.1.2.2, f.val wt (.str _) q.2⟩
  · cases r with
    | cons r rr => cases rr; cases r; exact .inr (.inl ⟨_, rfl, q.1, f.val wt (.str _) q.2⟩)
  · cases r with
    | cons r rr => cases rr; cases r; exact .inr (.inr (.inl ⟨_, rfl, f.val wt (.str _) q⟩))
  · cases r with
    | cons r rr => cases rr; cases r; exact .inr (.inr (.inr ⟨rfl, f.val wt (.str _) q⟩))
  · exact q.elim
end
end L2.G

namespace L2.G
open PySem PySem.Spec PyProof.Rows

section
variable {X : Cx} {a b e : Expr} {fa fb fe : dE} {pos : Pos}
/-! slices -/
abbrev dP := En → Tk → (Option Int → Tk → Prop) → Prop
def tDO (K : PySem.W.Frag) (f : dP) : TO := fun σ H Q => ∃ ρ T t F k, Wd K ρ T t σ F H ∧ f ρ T k ∧ ∀ o H' F' T', Wt K T' t F' H' → Grow t F H F' H' → k o T' → Q o H'
abbrev POd (X : Cx) (e : Option Expr) (f : dP) : Prop := PO X e (tDO X.K f)
theorem po_imp {e : Option Expr} {t u : TO} (h : PO X e t) (i : ∀ σ H Q, u σ H Q → t σ H Q) : PO X e u := ⟨fun pins s σ H Q I q => h.run pins s σ H Q I (i _ _ _ q)⟩
theorem p_none : POd X none (fun _ T k => k none T) := by
  refine po_imp po_none fun σ H Q h => ?_
  obtain ⟨ρ, T, t, F, k, w, h, f⟩ := h
  exact f _ _ _ _ w.wt (Grow.refl _ _ _) h
def pSome (fe : dE) : dP := fun ρ T k => fe ρ T fun d T1 => match d with | .int i => k (some i) T1 | _ => False
theorem p_some (he : PEd X e fe) : POd X (some e) (pSome fe) := by
  refine po_imp (po_some he) fun σ H Q h => ?_
  obtain ⟨ρ, T, t, F, k, w, h, f⟩ := h
  refine ⟨ρ, T, t, F, _, w, h, fun v H1 F1 x T1 w1 g1 r1 h1 => ?_⟩
  split at h1
  · cases r1; exact ⟨_, rfl, f _ _ _ _ w1 g1 h1⟩
  · exact h1.elim
def cutD (xs : List D) (lo hi : Option Int) : List D := (xs.drop (HT.sIx xs.length 0 lo)).take (HT.sIx xs.length xs.length hi - HT.sIx xs.length 0 lo)
theorem cut_rep {K : PySem.W.Frag} {F : Hp} {ds : List D} {vs : List V} (r : RepL K F ds vs) (lo hi : Option Int) : RepL K F (cutD ds lo hi) (cutV vs lo hi) := by
  unfold cutD cutV
  rw [r.len]
  exact (r.drop _).take _
def dSl (fe : dE) (lo hi : dP) : dE := fun ρ T k => fe ρ T fun x T1 => lo ρ T1 fun l T2 => hi ρ T2 fun h T3 => match x with | .lst xs => k (.lst (cutD xs l h)) T3 | .scr xs => k (.lst (cutD xs l h)) T3 | .tup xs => k (.tup (cutD xs l h)) T3 | _ => False
theorem d_slice {lo hi : Option Expr} {fl fh : dP} {p2 : Pos} (he : PEd X e fe) (hl : POd X lo fl) (hh : POd X hi fh) : PEd X (.Subscript e (.Slice lo hi none p2) pos) (dSl fe fl fh) := by
  refine pe_imp (pe_slice (sl_list.or sl_tupA) he hl hh) fun σ H Q h => ?_
  obtain ⟨ρ, T, t, F, k, w, h, f⟩ := h
  refine ⟨ρ, T, t, F, _, w, h, fun v H1 F1 x T1 w1 g1 r1 h1 => ?_⟩
  refine ⟨ρ, T1, t, F1, _, w.grow g1 w1, h1, fun l H2 F2 T2 w2 g2 h2 => ?_⟩
  refine ⟨ρ, T2, t, F2, _, (w.grow g1 w1).grow g2 w2, h2, fun u H3 F3 T3 w3 g3 h3 => ?_⟩
  have r3 := (r1.mono g2.sub).mono g3.sub
  have f3 := f.then ((g1.trans g2).trans g3)
  split at h3
  · obtain ⟨p, vs, rfl, h, r⟩ := rep_lst r3
    exact .inl ⟨p, vs, rfl, .of (w3.sub _ _ h), fun q hq => f3.lst w3 (cut_rep r l u) hq h3⟩
  · obtain ⟨p, vs, rfl, h, r⟩ := rep_scr r3
    exact .inl ⟨p, vs, rfl, w3.sub.seq h, fun q hq => f3.lst w3 (cut_rep r l u) hq h3⟩
  · have r0 := r3
    obtain ⟨p, vs, rfl, h, r⟩ := rep_tup r3
    refine .inr ⟨p, vs, rfl, same_t w3.sub h, fun hw => ?_, fun _ q hq => f3.tup w3 (cut_rep r l u) hq h3⟩
    rename_i xs
    have e : cutD xs l u = xs := by
      unfold cutD
      rw [r.len, hw.1, hw.2, Nat.sub_zero, List.drop_zero, ← r.len, List.take_length]
    rw [e] at h3
    exact f3.val w3 r0 h3
  · exact h3.elim

/-! xs + ys, xs * n -/
def oCat : Op2 := fun x y k => match x, y with
  | .lst xs, .lst ys => xs.length + ys.length ≤ 1000000 ∧ k (.lst (xs ++ ys))
  | .tup xs, .tup ys => xs.length + ys.length ≤ 1000000 ∧ k (.tup (xs ++ ys))
  | .str s, .str u => s.length + u.length ≤ 1000000 ∧ k (.str (s ++ u))
  | _, _ => False
theorem oCat_ok {K : PySem.W.Frag} : OpS K (fun x y H Q => (rCat x y H Q ∨ rCatA K x y H Q) ∨ ∃ i j, x = .str i ∧ y = .str j ∧ i.length + j.length ≤ sizeLine ∧ Q (.str (i ++ j)) H) oCat := by
  intro t F H T x y v w k Q wt r1 r2 q f
  unfold oCat at q
  split at q
  · obtain ⟨a, vs, rfl, h1, r1⟩ := rep_lst r1
    obtain ⟨b, ws, rfl, h2, r2⟩ := rep_lst r2
    exact .inl (.inl ⟨a, b, vs, ws, rfl, rfl, wt.sub _ _ h1, wt.sub _ _ h2, by rw [← r1.len, ← r2.len]; exact small_line q.1, fun p hp => f.lst wt (r1.app r2) hp q.2⟩)
  · have p1 := r1
    have p2 := r2
    obtain ⟨a, vs, rfl, h1, r1⟩ := rep_tup r1
    obtain ⟨b, ws, rfl, h2, r2⟩ := rep_tup r2
    refine .inl (.inr ⟨a, b, vs, ws, rfl, rfl, same_t wt.sub h1, same_t wt.sub h2, by rw [← r1.len, ← r2.len]; exact small_line q.1, fun e => ?_, fun _ e => ?_, fun _ _ p hp => f.tup wt (r1.app r2) hp q.2⟩)
    · subst e
      cases r1
      exact f.val wt p2 q.2
    · subst e
      cases r2
      rw [List.append_nil] at q
      exact f.val wt p1 q.2
  · cases r1
    cases r2
    exact .inr ⟨_, _, rfl, rfl, small_line q.1, f.val wt (.str _) q.2⟩
  · exact q.elim
/-! in -/
theorem pyL_any {p : PyData → Bool} : ∀ ys : List D, (D.pyL ys).any p = ys.any fun z => p z.py
  | [] => rfl
  | y :: ys => by simp [D.pyL, pyL_any ys]
/-! isinstance(e, T), T a built-in type -/
def D.ty : D → String
  | .non => "NoneType" | .bl _ => "bool" | .int _ => "int" | .str _ => "str" | .tup _ => "tuple" | .lst _ => "list" | .scr _ => "list" | .obj _ _ _ => "" | .ref _ => "" | .dct _ _ => "dict"
inductive Ty where | int | bool | str | tuple | list
def Ty.name : Ty → String | .int => "int" | .bool => "bool" | .str => "str" | .tuple => "tuple" | .list => "list"
def isTy : Ty → D → Option Bool
  | _, .obj _ _ _ => none
  | _, .ref _ => none
  | .int, .int _ => some true
  | .int, .bl _ => some true
  | .bool, .bl _ => some true
  | .str, .str _ => some true
  | .tuple, .tup _ => some true
  | .list, .lst _ => some true
  | .list, .scr _ => some true
  | _, _ => some false
theorem isTy_kit {T : Ty} {d : D} {r : Bool} (h : isTy T d = some r) : kitB d.ty T.name = some r := by
  cases T <;> cases d <;> simp [isTy] at h <;> subst h <;> simp only [D.ty, Ty.name] <;> decide +kernel
theorem rep_ty {K : PySem.W.Frag} {F H : Hp} (s : Same F H) {d : D} {v : V} (r : Rep K F d v) (h1 : ∀ C ns vs, d ≠ .obj C ns vs) (h2 : ∀ a, d ≠ .ref a) : TyX K H v (.type d.ty) := by
  cases r with
  | non => exact .base .non
  | bl b => exact .base (.bl b)
  | int i => exact .base (.int i)
  | str x => exact .base (.str x)
  | tup h _ =>
    rcases h with (h | ⟨o, h⟩) | ⟨o, its, n, h, c, _⟩
    · exact .base (.tup (s _ _ h))
    · exact .fTuple (s _ _ h)
    · exact .kTuple h c
  | lst h _ => exact .base (.lst (s _ _ h))
  | scr h _ =>
    rcases h with (h | ⟨o, h⟩) | ⟨o, its, n, h, c, _⟩
    · exact .base (.lst (s _ _ h))
    · exact .base (.frz (s _ _ h))
    · exact .kList h c
  | dct h _ _ => exact .base (.dK (s _ _ h))
  | obj _ _ _ => exact absurd rfl (h1 _ _ _)
  | ref a _ => exact absurd rfl (h2 a)
def dIsi (T : Ty) (fe : dE) : dE := fun ρ S k => fe ρ S fun d S1 => match isTy T d with | some r => k (.bl r) S1 | none => False
theorem d_isi (T' : Ty) {T : Str} {p p2 : Pos} (he : PEd X e fe) (hm : X.mg "isinstance" = none) (hmT : X.mg T = none) (hv : bootBuiltins T = some (.type T'.name) := by decide +kernel) (hg : Gl X "isinstance" := by rfl) (hgT : Gl X T := by rfl) (hn : T ≠ "__name__" := by decide) (hd : (T == ("__debug__" : Str)) = false := by decide)
    (hs : starEach [e, .Name T p2] X.env = (false, eval e X.env) :: starEach [.Name T p2] X.env := by rfl) (hp : (backTo pos (starEach [.Name T p2] X.env)).any (·.1) = false := by rfl) :
    PEd X (.Call (.Name "isinstance" p) [e, .Name T p2] [] pos) (dIsi T' fe) := by
  refine pe_imp (pe_callB call_isi hg hm (by decide +kernel) (pa_cons he (pa_cons (pe_bltn (v := .ty T'.name) hgT hmT hv rfl hn hd) pa_nil) hs) (by decide) (by decide) hs hp) fun σ H Q h => ?_
  obtain ⟨ρ, S, t, F, k, w, h, f⟩ := h
  refine ⟨ρ, S, t, F, _, w, h, fun v H1 F1 d S1 w1 g1 r1 h1 => ?_⟩
  split at h1
  · rename_i r e
    refine ⟨v, .ty T'.name, _, _, r, rfl, .ty T'.name, rep_ty w1.sub r1 (fun C ns vs z => ?_) (fun a z => ?_), kit_ty (isTy_kit e), (f.then g1).val w1 (.bl _) h1⟩
    · subst z; simp [isTy] at e
    · subst z; simp [isTy] at e
  · exact h1.elim
end

/-! lists of the def's own -/
section
variable {X : Cx} {e : Expr} {es : List Expr} {fe : dE} {fr : dA} {pos : Pos} {st : Stmt} {f : dS}
theorem Ws.own {K : PySem.W.Frag} {ρ : En} {T : Tk} {t : Option Addr} {σ : L2.St} {F0 H0 F H : Hp} (w : Ws K ρ T t σ F0 H0 F H) {i : Nat} {l : Addr} {xs : List D} {vs : List V} (hn : H l = none) (r : RepL K F xs vs) :
    Ws K (ρ.set i (some (.own xs))) T t (σ.set i (some (.ref l))) F0 H0 F (upd H l (.lst vs)) := by
  have hF : F l = none := w.w.wt.sub.free hn
  have g : Grow t F H F (upd H l (.lst vs)) := grow_own w.w.wt.sub hn
  have w1 := w.grow g (wt_own w.w.wt hn)
  have hl0 : H0 l = none := by
    cases q : H0 l with
    | none => rfl
    | some o => obtain ⟨o', h'⟩ := w.g.there l o q; rw [hn] at h'; cases h'
  have old : ∀ (j : Nat) (ys : List D) (m : Addr), ρ[j]? = some (some (SV.own ys)) → σ[j]? = some (some (V.ref m)) → m ≠ l := fun j ys m e1 e2 => by
    obtain ⟨v, h1, l', ws, rfl, _, h3, _, _⟩ := w.w.slot j _ e1
    rw [e2] at h1
    cases h1
    exact ne_of_none h3 hn
  refine ⟨⟨w1.w.wt, by simpa using w.w.len, fun j s e => ?_, fun j j' ys zs m e1 e2 e3 e4 => ?_⟩, w1.g, fun j ys m e1 e2 => ?_⟩
  · rcases getSet e with ⟨rfl, hl, e'⟩ | ⟨ne, e'⟩
    · cases e'
      refine ⟨.ref l, by rw [List.getElem?_set_self (by rw [← w.w.len]; exact hl)], l, vs, rfl, hF, upd_same, r, fun z => ?_⟩
      obtain ⟨_, us, hu, _⟩ := w.w.wt.tank l z
      rw [hn] at hu
      cases hu
    · obtain ⟨u, h1, h2⟩ := w1.w.slot j s e'
      exact ⟨u, by rw [List.getElem?_set_ne ne]; exact h1, h2⟩
  · rcases getSet e1 with ⟨rfl, hl1, _⟩ | ⟨n1, e1⟩
    · rcases getSet e2 with ⟨rfl, _, _⟩ | ⟨n2, e2⟩
      · rfl
      · rw [List.getElem?_set_self (by rw [← w.w.len]; exact hl1)] at e3
        cases e3
        rw [List.getElem?_set_ne n2] at e4
        exact absurd rfl (old j' zs _ e2 e4)
    · rw [List.getElem?_set_ne n1] at e3
      rcases getSet e2 with ⟨rfl, hl2, _⟩ | ⟨n2, e2⟩
      · rw [List.getElem?_set_self (by rw [← w.w.len]; exact hl2)] at e4
        cases e4
        exact absurd rfl (old j ys _ e1 e3)
      · rw [List.getElem?_set_ne n2] at e4
        exact w.w.apart j j' ys zs m e1 e2 e3 e4
  · rcases getSet e1 with ⟨rfl, hl1, _⟩ | ⟨n1, e1⟩
    · rw [List.getElem?_set_self (by rw [← w.w.len]; exact hl1)] at e2
      cases e2
      exact hl0
    · rw [List.getElem?_set_ne n1] at e2
      exact w.fr j ys m e1 e2
/-- x = [..], x a list that this def will change -/
def sOwn (i : Nat) (fr : dA) : dS := fun k ρ T => fr ρ T fun as T1 => match vals? as with | some ds => ds.length ≤ 1000000 ∧ k.nx (ρ.set i (some (.own ds))) T1 | none => False
theorem s_own (i : Nat) {x : Str} {pos' lp : Pos} (hN : X.N.Nodup) (ha : PAd X es fr) (hi : X.N[i]? = some x := by rfl) (hx : Loc X.env.scope x := by first | exact Or.inl rfl | exact Or.inr rfl) (hs : swapsWith (.List es lp) (some (.Name x pos')) pos.line X.env = pure false := by rfl)
    (hf : X.fn x = true ∨ X.env.scope.names.lookup x = some .local := by first | exact .inl rfl | exact .inr rfl | assumption) : PSd X (.Assign [.Name x pos'] (.List es lp) pos) (sOwn i fr) := by
  refine ps_imp (ps_set hN hi hx (pe_lst ha) hs hf) fun E σ H h => ?_
  obtain ⟨ρ, T, t, F0, H0, F, k, w, h, fe⟩ := h
  refine ⟨ρ, T, t, F, _, w.w, h, fun vs H1 F1 as T1 w1 g1 r1 h1 => ?_⟩
  split at h1
  · rename_i ds e
    have r := r1.vals e
    exact ⟨by rw [← r.len]; exact small_line h1.1, fun p hp => fe.nx _ _ _ _ _ ((w.grow g1 w1).own hp r) g1.sub h1.2⟩
  · exact h1.elim
/-- it will not be changed any more -/
def sFrz (i : Nat) (f : dS) : dS := fun k ρ T => match ρ[i]? with | some (some (.own xs)) => f k (ρ.set i (some (.val (.lst xs)))) T | _ => False
theorem Ws.frz {K : PySem.W.Frag} {ρ : En} {T : Tk} {t : Option Addr} {σ : L2.St} {F0 H0 F H : Hp} (w : Ws K ρ T t σ F0 H0 F H) {i : Nat} {xs : List D} (e : ρ[i]? = some (some (.own xs))) :
    ∃ F', Same F F' ∧ Ws K (ρ.set i (some (.val (.lst xs)))) T t σ F0 H0 F' H := by
  obtain ⟨v, hv, l, vs, rfl, hF, hH, r, nt⟩ := w.w.slot i _ e
  have sm : Same F (upd F l (.lst vs)) := same_upd hF
  have sub : Same (upd F l (.lst vs)) H := fun b u q => by
    by_cases hb : b = l
    · subst hb; rw [upd_same] at q; cases q; exact hH
    · rw [upd_ne hb] at q; exact w.w.wt.sub b u q
  have wt : Wt K T t (upd F l (.lst vs)) H := ⟨sub, fun a ea => by
    obtain ⟨n, us, hu, ru⟩ := w.w.wt.tank a ea
    have ne : a ≠ l := fun z => nt (by rw [ea, z])
    exact ⟨by rw [upd_ne ne]; exact n, us, hu, ru.mono sm⟩⟩
  refine ⟨_, sm, ⟨wt, by simpa using w.w.len, fun j s ej => ?_, fun j j' ys zs m e1 e2 e3 e4 => ?_⟩, ⟨w.g.sub.trans sm, w.g.keep, fun a o h0 n0 => ?_, w.g.there⟩, fun j ys m e1 e2 => ?_⟩
  · rcases getSet ej with ⟨rfl, _, e'⟩ | ⟨ne, e'⟩
    · cases e'
      exact ⟨.ref l, hv, .lst upd_same (r.mono sm)⟩
    · obtain ⟨u, h1, h2⟩ := w.w.slot j s e'
      refine ⟨u, h1, ?_⟩
      cases s with
      | val d => exact Rep.mono sm h2
      | tank => exact h2
      | exc _ _ => exact ⟨h2.1, fun dd fl x q => let ⟨n, u, f1, r1⟩ := h2.2 dd fl x q; ⟨n, u, f1, r1.mono sm⟩⟩
      | own ys =>
        obtain ⟨m, us, rfl, f1, f2, f3, f4⟩ := h2
        have nm : m ≠ l := fun z => ne (w.w.apart i j xs ys l e e' hv (z ▸ h1))
        exact ⟨m, us, rfl, by rw [upd_ne nm]; exact f1, f2, f3.mono sm, f4⟩
  · rcases getSet e1 with ⟨_, _, z⟩ | ⟨n1, e1⟩
    · cases z
    · rcases getSet e2 with ⟨_, _, z⟩ | ⟨n2, e2⟩
      · cases z
      · exact w.w.apart j j' ys zs m e1 e2 e3 e4
  · have ne : a ≠ l := fun z => by
      have q := w.fr i xs l e hv
      rw [z, q] at h0
      cases h0
    rw [upd_ne ne]
    exact w.g.new a o h0 n0
  · rcases getSet e1 with ⟨_, _, z⟩ | ⟨n1, e1⟩
    · cases z
    · exact w.fr j ys m e1 e2
theorem Ws.chg {K : PySem.W.Frag} {ρ : En} {T : Tk} {t : Option Addr} {σ : L2.St} {F0 H0 F H : Hp} (w : Ws K ρ T t σ F0 H0 F H) {i : Nat} {xs ys : List D} {l : Addr} {ws : List V} (e : ρ[i]? = some (some (.own xs))) (hv : σ[i]? = some (some (.ref l))) (r : RepL K F ys ws) :
    Ws K (ρ.set i (some (.own ys))) T t σ F0 H0 F (upd H l (.lst ws)) := by
  obtain ⟨v, hv2, l2, vs, rfl, hF, hH, r0, nt⟩ := w.w.slot i _ e
  rw [hv] at hv2
  cases hv2
  have ne_t : ∀ a, t = some a → a ≠ l := fun a ea z => nt (by rw [ea, z])
  refine ⟨⟨⟨fun b u q => ?_, fun a ea => ?_⟩, by simpa using w.w.len, fun j s ej => ?_, fun j j' ys' zs m e1 e2 e3 e4 => ?_⟩, ⟨w.g.sub, fun a o h0 n0 => ?_, w.g.new, fun a o h0 => ?_⟩, fun j ys' m e1 e2 => ?_⟩
  · have ne : b ≠ l := fun z => by rw [z, hF] at q; cases q
    rw [upd_ne ne]
    exact w.w.wt.sub b u q
  · obtain ⟨n, us, hu, ru⟩ := w.w.wt.tank a ea
    exact ⟨n, us, by rw [upd_ne (ne_t a ea)]; exact hu, ru⟩
  · rcases getSet ej with ⟨rfl, _, e'⟩ | ⟨ne, e'⟩
    · cases e'
      exact ⟨.ref l, hv, l, ws, rfl, hF, upd_same, r, nt⟩
    · obtain ⟨u, h1, h2⟩ := w.w.slot j s e'
      refine ⟨u, h1, ?_⟩
      cases s with
      | val d => exact h2
      | tank => exact h2
      | exc _ _ => exact ⟨h2.1, fun dd fl x q => let ⟨n, u, f1, r1⟩ := h2.2 dd fl x q; ⟨n, u, by rw [upd_ne (fun z => by rw [z, hH] at f1; cases f1)]; exact f1, r1⟩⟩
      | own zs =>
        obtain ⟨m, us, rfl, f1, f2, f3, f4⟩ := h2
        have nm : m ≠ l := fun z => ne (w.w.apart i j xs zs l e e' hv (z ▸ h1))
        exact ⟨m, us, rfl, f1, by rw [upd_ne nm]; exact f2, f3, f4⟩
  · have back : ∀ {j : Nat} {zs : List D}, (ρ.set i (some (.own ys)))[j]? = some (some (.own zs)) → ∃ zs', ρ[j]? = some (some (.own zs')) := fun {j zs} q => by
      rcases getSet q with ⟨rfl, _, _⟩ | ⟨_, q⟩
      · exact ⟨_, e⟩
      · exact ⟨_, q⟩
    obtain ⟨_, q1⟩ := back e1
    obtain ⟨_, q2⟩ := back e2
    exact w.w.apart j j' _ _ m q1 q2 e3 e4
  · have ne : a ≠ l := fun z => by
      have q := w.fr i xs l e hv
      rw [z, q] at h0
      cases h0
    rw [upd_ne ne]
    exact w.g.keep a o h0 n0
  · have ne : a ≠ l := fun z => by
      have q := w.fr i xs l e hv
      rw [z, q] at h0
      cases h0
    rw [upd_ne ne]
    exact w.g.there a o h0
  · rcases getSet e1 with ⟨rfl, _, _⟩ | ⟨_, e1⟩
    · exact w.fr i xs m e e2
    · exact w.fr j ys' m e1 e2
/-- x.append(e) -/
def sApp (i : Nat) (fe : dE) : dS := fun k ρ T => match ρ[i]? with | some (some (.own xs)) => fe ρ T fun d T1 => xs.length < 1000000 ∧ k.nx (ρ.set i (some (.own (xs ++ [d])))) T1 | _ => False
theorem s_app (i : Nat) {x : Str} {p1 p2 p3 p4 : Pos} (he : PEd X e fe) (hN : X.N[i]? = some x := by rfl) (hv : Vis X.env.scope x := by first | exact Or.inl rfl | exact Or.inr (Or.inl rfl) | exact Or.inr (Or.inr rfl))
    (hd : (x == ("__debug__" : Str)) = false := by decide) (hc : (x == ("__classdict__" : Str)) = false := by decide)
    (h1 : starEach [e] X.env = (false, eval e X.env) :: starEach [] X.env := by rfl) (h2 : attributeBase (.Name x p1) "append" X.env (eval (.Name x p1) X.env) = eval (.Name x p1) X.env := by rfl) (h3 : (p2.endLine == p3.line) = true := by rfl)
    (hs : swapsWith (.Call (.Attribute (.Name x p1) "append" p2) [e] [] p3) none p4.line X.env = pure false := by rfl)
    (hfew : ((backTo p3 (starEach [e] X.env)).all (fun x => !x.1) && (backToKw p3 (keywordEach [] X.env)).all (fun x => x.1.isSome) && decide (([e] : List Expr).length + ([] : List Keyword).length + (if ([] : List Keyword).isEmpty then 0 else 1) < 30)) = true := by rfl) :
    PSd X (.Expr (.Call (.Attribute (.Name x p1) "append" p2) [e] [] p3) p4) (sApp i fe) := by
  refine ps_imp (ps_expr (pe_bm PySem.F.plainAttrs_list PySem.F.slot_list_append PySem.F.type_list_append mt_append (pe_var (i := i) hN hv hd hc) (pa_cons he pa_nil h1) h2 hfew h3 h1) hs) fun E σ H h => ?_
  obtain ⟨ρ, T, t, F0, H0, F, k, w, h, fE⟩ := h
  unfold sApp at h
  split at h
  · rename_i xs e0
    obtain ⟨v, hv, l, vs, rfl, hF, hH, r, nt⟩ := w.w.slot i _ e0
    refine ⟨_, hv, .inl ⟨rfl, _, .of hH⟩, ρ, T, t, F, _, w.w, h, fun u H1 F1 d T1 w1 g1 r1 h1 => ?_⟩
    have hH1 := g1.keep _ _ hH nt
    have r' := (r.mono g1.sub).app (.cons r1 .nil)
    refine ⟨l, vs, u, rfl, rfl, hH1, by rw [← r.len, sizeLine_eq]; omega, ?_⟩
    exact fE.nx _ _ _ _ _ ((w.grow g1 w1).chg e0 hv r') g1.sub h1.2
  · exact h.elim
end
end L2.G

namespace L2.G
open PySem PySem.Spec PyProof.Rows

/-! what is walked -/
structure Src (K : PySem.W.Frag) (t : Option Addr) (J : It) (F1 : Hp) (xs : List D) : Prop where
  go : ∀ i F H, Same F1 F → Same F H → i < xs.length → J.go i H
  yl : ∀ i T F H x H', Same F1 F → Wt K T t F H → i < xs.length → J.yld i H x H' → ∃ F' d, xs[i]? = some d ∧ Rep K F' d x ∧ Grow t F H F' H' ∧ Wt K T t F' H'
  st : ∀ F H, Same F1 F → Same F H → J.stop xs.length H
abbrev dI := En → Tk → (List D → Tk → Prop) → Prop
def tDI (K : PySem.W.Frag) (f : dI) : TI := fun σ H R => ∃ ρ T t F k, Wd K ρ T t σ F H ∧ f ρ T k ∧ ∀ J H' F' xs T', Wt K T' t F' H' → Grow t F H F' H' → Src K t J F' xs → xs.length ≤ 1000000 → k xs T' → R J H'
abbrev PId (X : Cx) (tg it : Expr) (f : dI) : Prop := PI X tg it (tDI X.K f)
theorem pi_imp {X : Cx} {tg e : Expr} {t u : TI} (h : PI X tg e t) (i : ∀ σ H Q, u σ H Q → t σ H Q) : PI X tg e u := ⟨fun pins s σ H Q I q => h.run pins s σ H Q I (i _ _ _ q)⟩

section
variable {X : Cx} {tg e e2 : Expr} {fe : dE} {fr : dA} {p pos : Pos} {f : dS}
theorem src_list {K : PySem.W.Frag} {t : Option Addr} {F1 : Hp} {a : Addr} {xs : List D} {vs : List V} (h : F1 a = some (.lst vs)) (r : RepL K F1 xs vs) : Src K t (Itl K a) F1 xs where
  go := fun i F H s1 s2 hi => by
    rw [r.len] at hi
    exact ⟨vs, vs[i], .of (s2 _ _ (s1 _ _ h)), by simp [hi]⟩
  yl := fun i T F H x H' s1 w hi y => by
    obtain ⟨rfl, y⟩ := y
    obtain ⟨d, hd, rd⟩ := r.getV (y vs (.of (w.sub _ _ (s1 _ _ h))))
    exact ⟨F, d, hd, rd.mono s1, Grow.refl _ _ _, w⟩
  st := fun F H s1 s2 => ⟨vs, .of (s2 _ _ (s1 _ _ h)), by rw [r.len]; exact Nat.le_refl _⟩
theorem src_tup {K : PySem.W.Frag} {t : Option Addr} {F1 : Hp} {a : Addr} {xs : List D} {vs : List V} (h : SqT K F1 a vs) (r : RepL K F1 xs vs) : Src K t (Itt K a) F1 xs where
  go := fun i F H s1 s2 hi => by
    rw [r.len] at hi
    exact ⟨vs, vs[i], same_t (s1.trans s2) h, by simp [hi]⟩
  yl := fun i T F H x H' s1 w hi y => by
    obtain ⟨rfl, y⟩ := y
    obtain ⟨d, hd, rd⟩ := r.getV (y vs (same_t (s1.trans w.sub) h))
    exact ⟨F, d, hd, rd.mono s1, Grow.refl _ _ _, w⟩
  st := fun F H s1 s2 => ⟨vs, same_t (s1.trans s2) h, by rw [r.len]; exact Nat.le_refl _⟩
theorem src_rng {K : PySem.W.Frag} {t : Option Addr} {F1 : Hp} {lo : Int} {n : Nat} : Src K t (Itr lo n) F1 (intsL lo n) where
  go := fun i F H s1 s2 hi => by rw [intsL_len] at hi; exact hi
  yl := fun i T F H x H' s1 w hi y => by
    rw [intsL_len] at hi
    obtain ⟨rfl, rfl⟩ := y
    exact ⟨F, _, intsL_get n lo i hi, .int _, Grow.refl _ _ _, w⟩
  st := fun F H s1 s2 => by rw [intsL_len]; exact Nat.le_refl n
def iR1 (fr : dA) : dI := fun ρ T k => fr ρ T fun as T1 => match as with | [.val (.int j)] => j ≤ 1000000 ∧ -(2 ^ 62) ≤ j ∧ k (intsL 0 j.toNat) T1 | _ => False
def iR2 (fr : dA) : dI := fun ρ T k => fr ρ T fun as T1 => match as with | [.val (.int i), .val (.int j)] => (j - i ≤ 1000000 ∧ -(2 ^ 61) ≤ i ∧ i < 2 ^ 61 ∧ -(2 ^ 61) ≤ j ∧ j < 2 ^ 61) ∧ k (intsL i (j - i).toNat) T1 | _ => False
theorem i_range1 {a : Expr} (hm : X.mg "range" = none) (ha : PAd X [a] fr) (hg : Gl X "range" := by rfl) (hs : starEach [a] X.env = [(false, eval a X.env)] := by rfl) : PId X tg (.Call (.Name "range" p) [a] [] pos) (iR1 fr) := by
  refine pi_imp (pi_range1 hg hm ha hs) fun σ H R h => ?_
  obtain ⟨ρ, T, t, F, k, w, h, f⟩ := h
  refine ⟨ρ, T, t, F, _, w, h, fun vs H1 F1 as T1 w1 g1 r1 h1 => ?_⟩
  split at h1
  · rename_i j
    cases r1 with
    | val r1 rr =>
      cases rr
      cases r1
      exact ⟨j, rfl, h1.2.1, by have := h1.1; omega, f _ _ _ _ _ w1 g1 src_rng (by rw [intsL_len]; have := h1.1; omega) h1.2.2⟩
  · exact h1.elim
/-- zip of two lists of one length -/
def zipD (xs ys : List D) : List D := List.zipWith (fun x y => D.tup [x, y]) xs ys
def iZ (fr : dA) : dI := fun ρ T k => fr ρ T fun as T1 => match as with | [.val (.lst xs), .val (.lst ys)] => (zipD xs ys).length ≤ 1000000 ∧ k (zipD xs ys) T1 | _ => False
/-! for -/
def sForI (fi : dI) (g : dG) (f : dS) : dS := fun k ρ T => fi ρ T fun xs T1 => forL g f k xs ρ T1
theorem s_forI {body : List Stmt} {g : dG} {fi : dI} (hp : PassesOwn (model X.prog X.w) X.A X.env X.xe) (hc : X.calm = true) (hi : PId X tg e fi) (hg : PGd X tg g) (hb : PSsd X body f) (hst : ∀ x, foldedSetIterable e X.env x = pure x := by intro _; rfl) : PSd X (.For tg e body [] pos) (sForI fi g f) := by
  refine ps_imp (ps_for hp hc hi hg hb hst) fun E σ H h => ?_
  obtain ⟨ρ, T, t, F0, H0, F, k, w, h, fE⟩ := h
  refine ⟨ρ, T, t, F, _, w.w, h, fun J H1 F1 xs T1 w1 g1 src hl h1 => ?_⟩
  refine ⟨fun i m σ' H' => m = xs.length - i ∧ i ≤ xs.length ∧ ∃ ρ' T' F', Ws X.K ρ' T' t σ' F0 H0 F' H' ∧ Same F1 F' ∧ forL g f k (xs.drop i) ρ' T', ⟨xs.length, by simp, Nat.zero_le _, ρ, T1, F1, w.grow g1 w1, Same.refl _, h1⟩, ?_⟩
  rintro i m σ' H' ⟨rfl, hi, ρ', T', F', w', s', hh⟩
  by_cases lt : i < xs.length
  · refine .inr ⟨src.go i F' H' s' w'.w.wt.sub lt, fun σ2 H2 => ∃ ρ' T' F', Ws X.K ρ' T' t σ2 F0 H0 F' H2 ∧ Same F1 F' ∧ forL g f k (xs.drop (i + 1)) ρ' T', fun σ2 H2 q => ⟨xs.length - (i + 1), by omega, rfl, lt, q⟩, fun x H2 y => ?_⟩
    obtain ⟨F2, d, hd, rd, g2, w2⟩ := src.yl i T' F' H' x H2 s' w'.w.wt lt y
    have hx : xs.drop i = d :: xs.drop (i + 1) := by rw [List.drop_eq_getElem_cons lt, (List.getElem?_eq_some_iff.mp hd).2]
    rw [hx] at hh
    have sF := (g1.sub.trans s').trans g2.sub
    refine ⟨ρ', T', t, F0, H0, F2, d, _, w'.grow g2 w2, rd, hh, fun ρ3 T3 σ3 F3 H3 w3 s3 h3 => ?_⟩
    have s3' := (s'.trans g2.sub).trans s3
    refine ⟨ρ3, T3, t, F0, H0, F3, _, w3, h3, ?_⟩
    exact ⟨fun ρ4 T4 σ4 F4 H4 w4 s4 q => ⟨ρ4, T4, F4, w4, s3'.trans s4, q⟩, fE.rt, fE.nx.to (sF.trans s3), fun ρ4 T4 σ4 F4 H4 w4 s4 q => ⟨ρ4, T4, F4, w4, s3'.trans s4, q⟩⟩
  · have e : i = xs.length := by omega
    subst e
    rw [List.drop_length] at hh
    exact .inl ⟨src.st F' H' s' w'.w.wt.sub, fE.nx _ _ _ _ _ w' (g1.sub.trans s') hh⟩

/-! comprehensions -/
theorem wipe_get : ∀ {vs : List Nat} {σ : L2.St} {j : Nat}, (wipe σ vs)[j]? = if j ∈ vs ∧ j < σ.length then some none else σ[j]?
  | [], σ, j => by simp [wipe]
  | v :: vs, σ, j => by
    unfold wipe
    by_cases e : v = j
    · subst e
      by_cases hl : v < σ.length
      · rw [List.getElem?_set_self (by rw [wipe_length]; exact hl), if_pos ⟨List.mem_cons_self, hl⟩]
      · rw [List.getElem?_eq_none (by rw [List.length_set, wipe_length]; omega), if_neg (fun z => hl z.2), List.getElem?_eq_none (by omega)]
    · rw [List.getElem?_set_ne e, wipe_get]
      have : (j ∈ v :: vs) ↔ j ∈ vs := by simp [Ne.symm e]
      simp only [this]
theorem wipe_set {vs : List Nat} {σ : L2.St} {i : Nat} {v : Option V} (h : i ∈ vs) : wipe (σ.set i v) vs = wipe σ vs := by
  apply List.ext_getElem?
  intro j
  rw [wipe_get, wipe_get, List.length_set]
  by_cases e : i = j
  · subst e
    by_cases hl : i < σ.length
    · rw [if_pos ⟨h, hl⟩, if_pos ⟨h, hl⟩]
    · rw [if_neg (fun z => hl z.2), if_neg (fun z => hl z.2), List.getElem?_eq_none (by simpa using hl), List.getElem?_eq_none (by simpa using hl)]
  · rw [List.getElem?_set_ne e]
theorem wipe_idem {vs : List Nat} {σ : L2.St} : wipe (wipe σ vs) vs = wipe σ vs := by
  apply List.ext_getElem?
  intro j
  rw [wipe_get, wipe_get, wipe_length]
  split
  · rfl
  · rfl
def wipeD (ρ : En) : List Nat → En
  | [] => ρ
  | v :: vs => (wipeD ρ vs).set v none
theorem wd_none {K : PySem.W.Frag} {ρ : En} {T : Tk} {t : Option Addr} {σ : L2.St} {F H : Hp} (w : Wd K ρ T t σ F H) (i : Nat) : Wd K (ρ.set i none) T t (σ.set i none) F H := by
  refine ⟨w.wt, by simpa using w.len, fun j s e => ?_, fun j j' xs ys l e1 e2 e3 e4 => ?_⟩
  · rcases getSet e with ⟨_, _, z⟩ | ⟨ne, e'⟩
    · cases z
    · obtain ⟨u, h1, h2⟩ := w.slot j s e'
      exact ⟨u, by rw [List.getElem?_set_ne ne]; exact h1, h2⟩
  · rcases getSet e1 with ⟨_, _, z⟩ | ⟨n1, e1⟩
    · cases z
    · rcases getSet e2 with ⟨_, _, z⟩ | ⟨n2, e2⟩
      · cases z
      · rw [List.getElem?_set_ne n1] at e3
        rw [List.getElem?_set_ne n2] at e4
        exact w.apart j j' xs ys l e1 e2 e3 e4
theorem wd_wipe {K : PySem.W.Frag} {ρ : En} {T : Tk} {t : Option Addr} {σ : L2.St} {F H : Hp} (w : Wd K ρ T t σ F H) : ∀ vs : List Nat, Wd K (wipeD ρ vs) T t (wipe σ vs) F H
  | [] => w
  | v :: vs => wd_none (wd_wipe w vs) v
/-- the targets of a comprehension -/
abbrev dC1 := D → En → Option En
def CG (K : PySem.W.Frag) (g : TG) (c : dC1) (vs : List Nat) : Prop := ∀ {ρ : En} {T : Tk} {t : Option Addr} {σ : L2.St} {F H : Hp} {d : D} {v : V} {ρ1 : En} {Q : L2.St → Hp → Prop}, Wd K ρ T t σ F H → Rep K F d v → c d ρ = some ρ1 → (∀ σ1, Wd K ρ1 T t σ1 F H → wipe σ1 vs = wipe σ vs → Q σ1 H) → g v σ H Q
def cN (i : Nat) : dC1 := fun d ρ => some (ρ.set i (some (.val d)))
theorem cg_name {K : PySem.W.Frag} {i : Nat} {vs : List Nat} (h : i ∈ vs := by decide) : CG K (gName i) (cN i) vs := fun w r e q => by
  cases e
  exact q _ (w.put r) (wipe_set h)
def setAll : List Nat → List D → En → Option En
  | [], [], ρ => some ρ
  | i :: is, d :: ds, ρ => setAll is ds (ρ.set i (some (.val d)))
  | _, _, _ => none
def cT (is : List Nat) : dC1 := fun d ρ => match d with | .tup ds => setAll is ds ρ | _ => none
def lcD (ρ : En) (c : dC1) (tt : dT) (el : dE) (k : List D → Tk → Prop) : List D → List D → Tk → Prop
  | [], acc, T => k acc T
  | d :: r, acc, T => match c d ρ with
    | some ρ1 => tt ρ1 T fun b T1 => if b = true then el ρ1 T1 fun y T2 => lcD ρ c tt el k r (acc ++ [y]) T2 else lcD ρ c tt el k r acc T1
    | none => False
def dLc (vs : List Nat) (fi : dI) (c : dC1) (tt : dT) (el : dE) : dE := fun ρ T k => fi ρ T fun xs T1 => lcD (wipeD ρ vs) c tt el (fun acc T2 => k (.lst acc) T2) xs [] T1
def dYes : dT := fun _ T k => k true T
theorem pts_imp {ifs : List Expr} {t u : TT} (h : PTs X ifs t) (i : ∀ σ H Q, u σ H Q → t σ H Q) : PTs X ifs u := ⟨fun pins s σ H Q I q => h.run pins s σ H Q I (i _ _ _ q)⟩
theorem ts_nil : PTs X [] (tDT X.K dYes) := pts_imp pts_nil fun σ H Q ⟨ρ, T, t, F, k, w, h, f⟩ => f _ _ _ _ w.wt (Grow.refl _ _ _) h
theorem ts_one {c : Expr} {tc : dT} (h : PTd X c tc) : PTs X [c] (tDT X.K tc) := pts_one h
theorem lc_ok {K : PySem.W.Frag} {fi : dI} {g : TG} {c : dC1} {tt : dT} {el : dE} {vs : List Nat} (cg : CG K g c vs) {σ : L2.St} {H : Hp} {Q : VK} (h : tD K (dLc vs fi c tt el) σ H Q) : tLc (tDI K fi) g (tDT K tt) (tD K el) vs σ H Q := by
  obtain ⟨ρ, T, t, F, k, w, h, f⟩ := h
  refine ⟨ρ, T, t, F, _, w, h, fun J H1 F1 xs T1 w1 g1 src hl h1 => ?_⟩
  intro L hL
  have wd1 := w.grow g1 w1
  refine ⟨fun i m H' => m = xs.length - i ∧ i ≤ xs.length ∧ ∃ acc av T' F', Wt K T' t F' H' ∧ Grow t F1 H1 F' H' ∧ F' L = none ∧ H' L = some (.lst av) ∧ RepL K F' acc av ∧ acc.length ≤ i ∧ lcD (wipeD ρ vs) c tt el (fun acc T2 => k (.lst acc) T2) (xs.drop i) acc T', ?_, ?_⟩
  · refine ⟨xs.length, by simp, Nat.zero_le _, [], [], T1, F1, wt_own w1 hL, grow_own w1.sub hL, w1.sub.free hL, upd_same, .nil, Nat.le_refl _, ?_⟩
    exact h1
  rintro i m H' ⟨rfl, hi, acc, av, T', F', wt', g', fL, hLv, ra, hal, hh⟩
  have tL : t ≠ some L := fun z => by
    obtain ⟨_, us, hu, _⟩ := w1.tank L z
    rw [hL] at hu
    cases hu
  by_cases lt : i < xs.length
  · refine .inr ⟨src.go i F' H' g'.sub wt'.sub lt, fun H2 => ∃ acc av T' F', Wt K T' t F' H2 ∧ Grow t F1 H1 F' H2 ∧ F' L = none ∧ H2 L = some (.lst av) ∧ RepL K F' acc av ∧ acc.length ≤ i + 1 ∧ lcD (wipeD ρ vs) c tt el (fun acc T2 => k (.lst acc) T2) (xs.drop (i + 1)) acc T', fun H2 q => ⟨xs.length - (i + 1), by omega, rfl, lt, q⟩, fun x H2 y => ?_⟩
    obtain ⟨F2, d, hd, rd, g2, w2⟩ := src.yl i T' F' H' x H2 g'.sub wt' lt y
    have hx : xs.drop i = d :: xs.drop (i + 1) := by rw [List.drop_eq_getElem_cons lt, (List.getElem?_eq_some_iff.mp hd).2]
    rw [hx] at hh
    unfold lcD at hh
    split at hh
    · rename_i ρ1 e1
      have wd2 : Wd K (wipeD ρ vs) T' t (wipe σ vs) F2 H2 := wd_wipe (wd1.grow (g'.trans g2) w2) vs
      refine cg wd2 rd e1 fun σ1 ws1 ew => ⟨by rw [ew, wipe_idem], ?_⟩
      refine ⟨ρ1, T', t, F2, _, ws1, hh, fun b H3 F3 T3 w3 g3 h3 => ?_⟩
      have gg := (g'.trans g2).trans g3
      have hL2 := g2.keep _ _ hLv tL
      have hL3 := g3.keep _ _ hL2 tL
      have fL2 := g2.new _ _ hLv fL
      have fL3 := g3.new _ _ hL2 fL2
      have ra3 := (ra.mono g2.sub).mono g3.sub
      cases b with
      | false => exact ⟨acc, av, T3, F3, w3, gg, fL3, hL3, ra3, by omega, h3⟩
      | true =>
        rw [if_pos rfl] at h3
        refine iteT ⟨ρ1, T3, t, F3, _, ws1.grow g3 w3, h3, fun u H4 F4 z T4 w4 g4 r4 h4 => ?_⟩
        have hL4 := g4.keep _ _ hL3 tL
        have fL4 := g4.new _ _ hL3 fL3
        have ra4 := ra3.mono g4.sub
        refine ⟨av, hL4, by rw [← ra4.len, sizeLine_eq]; omega, acc ++ [z], av ++ [u], T4, F4, ?_, ?_, fL4, upd_same, ra4.app (.cons r4 .nil), by simp; omega, h4⟩
        · refine ⟨fun b o q => ?_, fun a ea => ?_⟩
          · have ne : b ≠ L := fun z => by rw [z, fL4] at q; cases q
            rw [upd_ne ne]
            exact w4.sub b o q
          · obtain ⟨n, us, hu, ru⟩ := w4.tank a ea
            have ne : a ≠ L := fun z => tL (by rw [ea, z])
            exact ⟨n, us, by rw [upd_ne ne]; exact hu, ru⟩
        · have gg4 := gg.trans g4
          refine ⟨gg4.sub, fun a o q n => ?_, gg4.new, fun a o q => ?_⟩
          · rw [upd_ne (ne_of_none q hL)]
            exact gg4.keep a o q n
          · rw [upd_ne (ne_of_none q hL)]
            exact gg4.there a o q
    · exact hh.elim
  · have e : i = xs.length := by omega
    subst e
    rw [List.drop_length] at hh
    refine .inl ⟨src.st F' H' g'.sub wt'.sub, ?_⟩
    have sm : Same F' (upd F' L (.lst av)) := same_upd fL
    refine f (.ref L) H' (upd F' L (.lst av)) (.lst acc) T' ⟨fun b o q => ?_, fun a ea => ?_⟩ (g1.trans ⟨g'.sub.trans sm, g'.keep, fun a o q n => ?_, g'.there⟩) (.lst upd_same (ra.mono sm)) hh
    · by_cases hb : b = L
      · subst hb; rw [upd_same] at q; cases q; exact hLv
      · rw [upd_ne hb] at q; exact wt'.sub b o q
    · obtain ⟨n, us, hu, ru⟩ := wt'.tank a ea
      have ne : a ≠ L := fun z => tL (by rw [ea, z])
      exact ⟨by rw [upd_ne ne]; exact n, us, hu, ru.mono sm⟩
    · rw [upd_ne (ne_of_none q hL)]
      exact g'.new a o q n
theorem d_lc {elt iter : Expr} {ifs : List Expr} {scope : Scope} {fi : dI} {g : TG} {c : dC1} {tt : dT} {el : dE} (own : List (Str × Nat)) (hc : X.calm = true) (hN : X.N.Nodup) (hi : PId X tg iter fi) (cg : CG X.K g c (own.map (·.2)))
    (hg : ∀ (s : Shared) (H : Hp) (C : Addr) (cl : List (Str × Addr)) (fp : List Addr), PG (X.blk s H scope (compEnvC scope cl C X.env) fp) tg g)
    (ht : ∀ (s : Shared) (H : Hp) (C : Addr) (cl : List (Str × Addr)) (fp : List Addr), PTs (X.blk s H scope (compEnvC scope cl C X.env) fp) ifs (tDT X.K tt))
    (he : ∀ (s : Shared) (H : Hp) (C : Addr) (cl : List (Str × Addr)) (fp : List Addr), PEd (X.blk s H scope (compEnvC scope cl C X.env) fp) elt el)
    (ok : BlkOk X.N X.env.scope scope own := by exact blkOk_by (by decide +kernel)) (hs : ∀ x, foldedSetIterable iter X.env x = pure x := by intro _; rfl) :
    PEd X (.ListComp elt [⟨tg, iter, ifs, 0⟩] scope pos) (dLc (own.map (·.2)) fi c tt el) :=
  pe_imp (pe_lc (te := tD X.K el) hc hN hi ok hg ht he hs) fun _ _ _ h => lc_ok cg h
/-- y = [..] on one line -/
theorem s_setLc (i : Nat) {y : Str} {py spos : Pos} {elt iter : Expr} {ifs : List Expr} {scope : Scope} {fi : dI} {g : TG} {c : dC1} {tt : dT} {el : dE} (own : List (Str × Nat)) (hc : X.calm = true) (hN : X.N.Nodup) (hi : PId X tg iter fi) (cg : CG X.K g c (own.map (·.2)))
    (hg : ∀ (s : Shared) (H : Hp) (C : Addr) (cl : List (Str × Addr)) (fp : List Addr), PG (X.blk s H scope (compEnvC scope cl C X.env) fp) tg g)
    (ht : ∀ (s : Shared) (H : Hp) (C : Addr) (cl : List (Str × Addr)) (fp : List Addr), PTs (X.blk s H scope (compEnvC scope cl C X.env) fp) ifs (tDT X.K tt))
    (he : ∀ (s : Shared) (H : Hp) (C : Addr) (cl : List (Str × Addr)) (fp : List Addr), PEd (X.blk s H scope (compEnvC scope cl C X.env) fp) elt el)
    (hsw : swapsWith (.ListComp elt [⟨tg, iter, ifs, 0⟩] scope pos) (some (.Name y py)) spos.line X.env = pure true)
    (ok : BlkOk X.N X.env.scope scope own := by exact blkOk_by (by decide +kernel)) (hy : X.N[i]? = some y := by rfl) (hyl : X.env.scope.names.lookup y = some .local := by rfl) (hs : ∀ x, foldedSetIterable iter X.env x = pure x := by intro _; rfl) :
    PSd X (.Assign [.Name y py] (.ListComp elt [⟨tg, iter, ifs, 0⟩] scope pos) spos) (sAsg (dLc (own.map (·.2)) fi c tt el) (gN i)) := by
  refine ps_imp (ps_setLc (te := tD X.K el) hc hN hy hyl hsw hi ok hg ht he hs) fun E σ H h => ?_
  obtain ⟨ρ, T, t, F0, H0, F, k, w, h, fe⟩ := h
  exact lc_ok cg ⟨ρ, T, t, F, _, w.w, h, fun v H1 F1 d T1 w1 g1 r1 h1 => fe.nx _ _ _ _ _ ((w.grow g1 w1).put r1) g1.sub h1⟩
end
end L2.G

namespace L2.G
open PySem PySem.Spec PyProof.Rows

/-! the list that is changed in its place -/
section
variable {X : Cx} {e : Expr} {es : List Expr} {fe : dE} {fr : dA} {p pos : Pos} {f g : dS}
def isTank (ρ : En) (i : Nat) : Prop := match ρ[i]? with | some (some .tank) => True | _ => False
def dTix (i : Nat) (fe : dE) : dE := fun ρ T k => isTank ρ i ∧ fe ρ T fun d T1 => match d with | .int j => (match atI T1 j with | some x => k x T1 | none => False) | _ => False
theorem tank_slot {K : PySem.W.Frag} {ρ : En} {T : Tk} {t : Option Addr} {σ : L2.St} {F H : Hp} (w : Wd K ρ T t σ F H) {i : Nat} (h : isTank ρ i) : ∃ a, t = some a ∧ σ[i]? = some (some (.ref a)) := by
  unfold isTank at h
  split at h
  · rename_i e
    obtain ⟨v, h1, a, h2, rfl⟩ := w.slot i _ e
    exact ⟨a, h2, h1⟩
  · exact h.elim
theorem d_tix (i : Nat) {x : Str} {p1 : Pos} (he : PEd X e fe) (hs : PlainIx e := by exact fun _ _ => rfl) (hN : X.N[i]? = some x := by rfl) (hv : Vis X.env.scope x := by first | exact Or.inl rfl | exact Or.inr (Or.inl rfl) | exact Or.inr (Or.inr rfl))
    (hd : (x == ("__debug__" : Str)) = false := by decide) (hc : (x == ("__classdict__" : Str)) = false := by decide) : PEd X (.Subscript (.Name x p1) e pos) (dTix i fe) := by
  refine pe_imp (pe_ix ix_list (pe_var hN hv hd hc) he hs) fun σ H Q h => ?_
  obtain ⟨ρ, T, t, F, k, w, ⟨ht, h⟩, f⟩ := h
  obtain ⟨a, rfl, hσ⟩ := tank_slot w ht
  refine ⟨_, hσ, ρ, T, some a, F, _, w, h, fun v H1 F1 d T1 w1 g1 r1 h1 => ?_⟩
  split at h1
  · split at h1
    · rename_i e1
      cases r1
      obtain ⟨_, vs, hH, r⟩ := w1.tank a rfl
      obtain ⟨u, e2, ru⟩ := atI_rep r e1
      exact ⟨a, vs, _, u, rfl, rfl, .of hH, e2, (f.then g1).val w1 ru h1⟩
    · exact h1.elim
  · exact h1.elim
theorem Ws.tk {K : PySem.W.Frag} {ρ : En} {T T' : Tk} {σ : L2.St} {F0 H0 F H : Hp} {a : Addr} {ws : List V} (w : Ws K ρ T (some a) σ F0 H0 F H) (r : RepL K F T' ws) : Ws K ρ T' (some a) σ F0 H0 F (upd H a (.lst ws)) := by
  obtain ⟨hF, _⟩ := w.w.wt.tank a rfl
  refine ⟨⟨⟨fun b u q => ?_, fun b eb => ?_⟩, w.w.len, fun j s ej => ?_, w.w.apart⟩, ⟨w.g.sub, fun b o h0 n0 => ?_, w.g.new, fun b o h0 => ?_⟩, w.fr⟩
  · have ne : b ≠ a := fun z => by rw [z, hF] at q; cases q
    rw [upd_ne ne]
    exact w.w.wt.sub b u q
  · cases eb
    exact ⟨hF, ws, upd_same, r⟩
  · obtain ⟨u, h1, h2⟩ := w.w.slot j s ej
    refine ⟨u, h1, ?_⟩
    cases s with
    | val d => exact h2
    | tank => exact h2
    | exc _ _ => exact ⟨h2.1, fun dd fl x q => let ⟨n, u, f1, r1⟩ := h2.2 dd fl x q; ⟨n, u, by rw [upd_ne (fun z => n (by rw [z]))]; exact f1, r1⟩⟩
    | own zs =>
      obtain ⟨m, us, rfl, f1, f2, f3, f4⟩ := h2
      have nm : m ≠ a := fun z => f4 (by rw [z])
      exact ⟨m, us, rfl, f1, by rw [upd_ne nm]; exact f2, f3, f4⟩
  · have ne : b ≠ a := fun z => n0 (by rw [z])
    rw [upd_ne ne]
    exact w.g.keep b o h0 n0
  · by_cases hb : b = a
    · subst hb; exact ⟨_, upd_same⟩
    · rw [upd_ne hb]; exact w.g.there b o h0
def gTs (i : Nat) (fe : dE) : dG := fun d ρ T k => isTank ρ i ∧ fe ρ T fun j T1 => match j with | .int j => (match ixN T1.length j with | some m => k ρ (T1.set m d) | none => False) | _ => False
theorem g_tset (i : Nat) {x : Str} {p1 : Pos} (he : PEd X e fe) (hN : X.N[i]? = some x := by rfl) (hv : Vis X.env.scope x := by first | exact Or.inl rfl | exact Or.inr (Or.inl rfl) | exact Or.inr (Or.inr rfl))
    (hd : (x == ("__debug__" : Str)) = false := by decide) (hc : (x == ("__classdict__" : Str)) = false := by decide) (ha : ∀ v, assign (.Subscript (.Name x p1) e pos) X.env v = (do
      let ov ← holding [v] (eval (.Name x p1) X.env); let iv ← holding [v, ov] (eval e X.env); standAt pos; holding [v, ov, iv] (setItem ov iv v); release [v, ov, iv] []) := by intro _; rfl) : PGd X (.Subscript (.Name x p1) e pos) (gTs i fe) := by
  refine pg_imp (pg_sub (pe_var hN hv hd hc) he set_list ha) fun v σ H Q h => ?_
  obtain ⟨ρ, T, t, F0, H0, F, d, k, w, r, ⟨ht, h⟩, f⟩ := h
  obtain ⟨a, rfl, hσ⟩ := tank_slot w.w ht
  refine ⟨_, hσ, ρ, T, some a, F, _, w.w, h, fun u H1 F1 j T1 w1 g1 r1 h1 => ?_⟩
  split at h1
  · split at h1
    · rename_i e1
      cases r1
      obtain ⟨_, vs, hH, rt⟩ := w1.tank a rfl
      rw [rt.len] at e1
      exact ⟨a, vs, _, _, rfl, rfl, hH, e1, f _ _ _ _ _ ((w.grow g1 w1).tk (rt.set (r.mono g1.sub) _)) g1.sub h1⟩
    · exact h1.elim
  · exact h1.elim

/-! a def that ends by return [..]: the list is new -/
def FinO (K : PySem.W.Frag) (t : Option Addr) (F H : Hp) (k : KD) (n : VK) : Prop := ∀ l lv H' F' xs T', Wt K T' t F' H' → Grow t F H F' H' → H l = none → F' l = none → H' l = some (.lst lv) → RepL K F' xs lv → k (.lst xs) T' → n (.ref l) H'
def tDSo (K : PySem.W.Frag) (f : En → Tk → KD → Prop) : TS := fun E σ H => ∃ ρ T t F0 H0 F k, Ws K ρ T t σ F0 H0 F H ∧ f ρ T k ∧ FinO K t F0 H0 k E.rt
abbrev PSo (X : Cx) (st : List Stmt) (f : En → Tk → KD → Prop) : Prop := PSs X st (tDSo X.K f)
def no0 : dEnds := { nx := fun _ _ => False, rt := fun _ _ => False, bk := fun _ _ => False, ct := fun _ _ => False }
theorem so_cons {st : Stmt} {rest : List Stmt} {f : dS} {g : En → Tk → KD → Prop} (h1 : PSd X st f) (h2 : PSo X rest g) : PSo X (st :: rest) (fun ρ T k => f { no0 with nx := fun ρ1 T1 => g ρ1 T1 k } ρ T) := by
  refine pss_imp (pss_cons h1 h2) fun E σ H h => ?_
  obtain ⟨ρ, T, t, F0, H0, F, k, w, h, fe⟩ := h
  exact ⟨ρ, T, t, F0, H0, F, _, w, h, ⟨fun ρ' T' σ' F' H' w' _ h' => ⟨ρ', T', t, F0, H0, F', k, w', h', fe⟩, fun _ _ _ _ _ _ _ _ q => q.elim, fun _ _ _ _ _ _ _ q => q.elim, fun _ _ _ _ _ _ _ q => q.elim⟩⟩
theorem so_ret {lp : Pos} (ha : PAd X es fr) : PSo X [.Return (some (.List es lp)) pos] (fun ρ T k => fr ρ T fun as T1 => match vals? as with | some ds => ds.length ≤ 1000000 ∧ k (.lst ds) T1 | none => False) := by
  refine pss_imp (pss_one (ps_ret (pe_lst ha))) fun E σ H h => ?_
  obtain ⟨ρ, T, t, F0, H0, F, k, w, h, fe⟩ := h
  refine ⟨ρ, T, t, F, _, w.w, h, fun vs H1 F1 as T1 w1 g1 r1 h1 => ?_⟩
  split at h1
  · rename_i ds e
    have r := r1.vals e
    refine ⟨by rw [← r.len]; exact small_line h1.1, fun l hl => ?_⟩
    have g2 := (w.g.trans g1).trans (grow_own (o := .lst vs) w1.sub hl)
    refine fe l vs _ F1 ds T1 (wt_own w1 hl) g2 ?_ (w1.sub.free hl) upd_same r h1.2
    cases q : H0 l with
    | none => rfl
    | some o =>
      obtain ⟨o', h'⟩ := (w.g.trans g1).there l o q
      rw [hl] at h'
      cases h'
  · exact h1.elim
def spO (K : PySem.W.Frag) (n : Nat) (sem : Sem) : Sp := fun vs H Q _ => vs.length = n ∧ ∃ F t T as k, ArgL K t F as vs ∧ Wt K T t F H ∧ sem as T k ∧ FinO K t F H k Q
def OkO (P : Program) (w : World) (K : PySem.W.Frag) (mg : Str → Option Value) (base : Heap) (n : Nat) (x : Str) (ps : List Str) (sem : Sem) : Prop :=
  ∃ f fd, mg x = some (.ref f) ∧ PySem.W.keepIn K (.ref f) = true ∧ Binds K fd ps [] ∧ GFn P w K mg base CX0 n f fd ps (spO K ps.length sem)
end
def semO (N : List Str) (b : En → Tk → KD → Prop) : Sem := fun as T k => b (start' N as) T k
theorem ok_defO {P : Program} {w : World} {K : PySem.W.Frag} {mg : Str → Option Value} {base : Heap} {n : Nat} {x : Str} {st : Stmt} {N ps : List Str} {b : En → Tk → KD → Prop} (h : Df K mg x st) (S : FnScope N ps (defScope st))
    (hb1 : ∀ (kV doc pm : Value) (an : Option Addr) (cdv ct : Value) (us : List Value), us.length = ps.length → bindArgs (PySem.W.fnOf x x (defArgs st) (defBody st) (defScope st) .none kV doc pm an cdv ct) ⟨us, []⟩ = pure (ps.zip us))
    (body : ∀ (f : Addr) (cdv : Value) (A : Around) (fs : List Env) (s : Shared) (H : Hp) (E : XK), Room n (A.deeper (envOfC x (defScope st) s.heap.objs.size f cdv)) → A.guards = some [] → PSo (CxD P w K mg base N x st f cdv A fs s H E) (defBody st) b) :
    OkO P w K mg base (n + 1) x ps (semO N b) := by
  obtain ⟨f, fd, Fn, hm⟩ := h
  refine ⟨f, fd, hm, Fn.kp, Fn.binds hb1, ?_⟩
  obtain ⟨oc, od, kV, doc, pm, an, cdv, ct, osl, rfl, lk, hcd⟩ := Fn.ex
  refine gfn_body lk hcd S (fun vs H Q E q => q.1) fun A fs s H vs Q E hr hgd hsp => ?_
  obtain ⟨hl, F, t, T, as, k, ar, wt, h, fin⟩ := hsp
  refine ⟨_, (body f cdv A fs s H E hr hgd).nox, start' N as, T, t, F, H, F, _, ⟨wd_start ar wt, Grow.refl _ _ _, fun i xs l e1 _ => ?_⟩, h, fin⟩
  exact absurd rfl ((argGet (H := H) ar i _ (startGet e1)).2 xs)
theorem OkO.mono {P : Program} {w : World} {K : PySem.W.Frag} {mg : Str → Option Value} {base : Heap} {m n : Nat} {x : Str} {ps : List Str} {sem : Sem} (h : OkO P w K mg base m x ps sem) (l : m ≤ n) : OkO P w K mg base n x ps sem :=
  let ⟨f, fd, h1, h2, h3, h4⟩ := h; ⟨f, fd, h1, h2, h3, h4.mono l⟩
section
variable {X : Cx} {e : Expr} {es : List Expr} {fr : dA} {p pos q pos2 : Pos} {x y : Str} {n m : Nat} {ps qs : List Str} {sem so : Sem}
/-- f(new(..)): the new list is f's own -/
def dCallT (m : Nat) (sem so : Sem) (fr : dA) : dE := fun ρ T k => fr ρ T fun as T1 => as.length = m ∧ so as T1 fun d T2 => match d with | .lst xs => sem [.tank] xs fun r _ => k r T2 | _ => False
theorem d_callT (G : Ok X.prog X.w X.K X.mg X.base n x ps sem) (O : OkO X.prog X.w X.K X.mg X.base m y qs so) (hr : Room n X.A) (hr2 : Room m X.A) (hgd : X.A.guards = some []) (ha : PAd X (e :: es) fr) (h1 : ps.length = 1) (hg : Gl X x := by rfl) (hg2 : Gl X y := by rfl)
    (hd : (x == ("__debug__" : Str)) = false := by decide) (hd2 : (y == ("__debug__" : Str)) = false := by decide) (he : starEach (e :: es) X.env = (false, eval e X.env) :: starEach es X.env := by rfl) (hp : (backTo pos2 (starEach es X.env)).any (·.1) = false := by rfl)
    (he2 : starEach [.Call (.Name y q) (e :: es) [] pos2] X.env = (false, eval (.Call (.Name y q) (e :: es) [] pos2) X.env) :: starEach [] X.env := by rfl) (hp2 : (backTo pos (starEach [] X.env)).any (·.1) = false := by rfl) :
    PEd X (.Call (.Name x p) [.Call (.Name y q) (e :: es) [] pos2] [] pos) (dCallT qs.length sem so fr) := by
  obtain ⟨f, fd, a1, a2, a3, _, a5, _⟩ := G
  obtain ⟨f', fd', b1, b2, b3, b5⟩ := O
  refine pe_imp (g_call (E := E0) a5 hr hgd hg a1 a2 a3 pass0 (pa_cons (g_call (E := E0) b5 hr2 hgd hg2 b1 b2 b3 pass0 ha hd2 he hp) pa_nil he2) hd he2 hp2) fun σ H Q h => ?_
  obtain ⟨ρ, T, t, F, k, w, h, fin⟩ := h
  refine ⟨ρ, T, t, F, _, w, h, fun vs H1 F1 as T1 w1 g1 r1 h1' => ?_⟩
  show spO X.K qs.length so (vs ++ []) H1 _ E0
  rw [List.append_nil]
  refine ⟨by rw [← r1.len]; exact h1'.1, F1, t, T1, as, _, r1, w1, h1'.2, fun l lv H2 F2 xs T2 w2 g2 hl hF2 hH2 rx h2 => ?_⟩
  refine ⟨by rw [h1]; rfl, F2, some l, xs, [.tank], _, .tank rfl .nil, ⟨w2.sub, fun a ea => ?_⟩, h2, fun v H3 F3 d T3 w3 g3 r3 h3 => ?_⟩
  · cases ea
    exact ⟨hF2, lv, hH2, rx⟩
  · have keep : ∀ a o, H1 a = some o → t ≠ some a → H3 a = some o := fun a o q n => g3.keep a o (g2.keep a o q n) (fun z => by cases z; rw [hl] at q; cases q)
    have tk : ∀ a, t = some a → F3 a = none ∧ ∃ vs, H3 a = some (.lst vs) ∧ RepL X.K F3 T2 vs := fun a ea => by
      obtain ⟨n, us, hu, ru⟩ := w2.tank a ea
      obtain ⟨_, us1, hu1, _⟩ := w1.tank a ea
      have ne : some l ≠ some a := fun z => by cases z; rw [hl] at hu1; cases hu1
      exact ⟨g3.new _ _ hu n, us, g3.keep _ _ hu ne, ru.mono g3.sub⟩
    refine fin v H3 F3 d T2 ⟨w3.sub, tk⟩ (g1.trans ⟨g2.sub.trans g3.sub, keep, fun a o q n => ?_, fun a o q => ?_⟩) r3 h3
    · obtain ⟨o', q'⟩ := g2.there a o q
      exact g3.new a o' q' (g2.new a o q n)
    · obtain ⟨o', q'⟩ := g2.there a o q
      exact g3.there a o' q'
end

/-! the end: the law is called -/
theorem g_law {P : Program} {w : World} {K : PySem.W.Frag} {mg mb : Str → Option Value} {CX : CXT} {k : Nat} {fa a : Addr} {fd : FuncData} {x : Str} {sp : Sp} {s1 : Shared} {vs : List Value} {ns : List Int} (KX : K.In s1.heap) (hns : s1.heap.Ns mainGlobals mg)
    (hb : s1.heap.Ns builtinsNs mb) (hbb : ∀ x : Str, x ≠ "__name__" → mb x = bootBuiltins x) (hlim : s1.heap.NoLimit) (hg : s1.gens = #[]) (ha : s1.heap.get? a = some { cls := .type "list", data := .seq vs.toArray }) (hi : IntsAre vs ns) (hl : ns.length ≤ sizeLine)
    (hr : Room k callerA) (G : ∀ base : Heap, K.In base → base.Ns mainGlobals mg → GFn P w K mg base CX k fa fd [x] sp) (hbind : ∀ u : Value, BindsTo s1 fd ⟨[u], []⟩ [(x, u)])
    (hsp : ∀ H : Hp, Only H → SqL K H a (ns.map V.int) → sp [.ref a] H (fun v _ => v = .bl true) fun _ _ _ => False) (hCX : ∀ H e s', CX [] H s1 (fun _ _ _ => False) e s' → False) :
    codeAny (model P w) callerA (.call (.ref fa) ⟨[.ref a], []⟩) (fun r s' => r = .ok (.ret (.bool true)) ∧ OldK s1.heap s'.heap ∧ s'.os = s1.os ∧ AllBare s'.gens) s1 := by
  have rv := vals_ints hi
  have lenV := hi.length
  have core : ∀ H : Hp, Only H → SqL K H a (ns.map V.int) → HOk P w H s1.heap → (∀ b, H b ≠ none → b = a) → (H a ≠ none → K.lookup a = none) →
      codeAny (model P w) callerA (.call (.ref fa) ⟨[.ref a], []⟩) (fun r s' => r = .ok (.ret (.bool true)) ∧ OldK s1.heap s'.heap ∧ s'.os = s1.os ∧ AllBare s'.gens) s1 := by
    intro H hO hS hok hA hK
    have free : ∀ {b : Addr}, b ≠ a → H b = none := fun {b} nb => Classical.byContradiction fun z => nb (hA b z)
    have dicts : ∀ {b : Addr} {o : Obj} {es : Array DictEntry} {ep : Nat}, s1.heap.get? b = some o → o.data = .dict es ep → H b = none := fun {b o es ep} e d => free fun z => by
      subst z
      cases ha.symm.trans e
      exact nomatch (show Data.seq vs.toArray _ = Data.dict es ep from d)
    have ns' : ∀ {b : Addr} {m : Str → Option Value}, s1.heap.Ns b m → (hidT s1.heap H).Ns b m := fun {b m} ⟨o, es, ep, e, d, r⟩ => ⟨o, es, ep, hidT_get e (dicts e d), d, r⟩
    have inB : K.In (hidT s1.heap H) := fun b o e => hidT_get (KX b o e) (by
      by_cases z : H b = none
      · exact z
      · have hb := hA b z
        subst hb
        have q := hK z
        rw [e] at q
        cases q)
    have hM : Mod K mg (hidT s1.heap H) := ⟨inB, ns' hns, ⟨mb, ns' hb, hbb⟩, by obtain ⟨mc, h1, h2⟩ := hlim; exact ⟨mc, ns' h1, h2⟩⟩
    have e0 : Env0 P w K mg (hidT s1.heap H) callerA [] s1 H := ⟨rfl, hM, fun b o e => of_hidT e, Nat.le_of_eq (hidT_size _ _), trivial, fun b z => (by cases z), hok, .of_eq hg⟩
    apply codeAny_mono ((G _ inB (ns' hns)).go callerA [] s1 H ⟨[.ref a], []⟩ [.ref a] [.ref a] _ _ ⟨hr, rfl⟩ e0 (hbind (.ref a)) (.cons rfl .nil) (hsp H hO hS))
    intro r s' h
    match r, h with
    | .error e, h => exact (hCX H e s' h).elim
    | .ok (.ret u), h =>
      obtain ⟨v, H', os, bare, un, hok', r', q⟩ := h
      obtain rfl : v = V.bl true := q
      obtain rfl : u = Value.bool true := r'
      refine ⟨rfl, OldK.of_keep fun b o e => ?_, os, bare⟩
      cases q : H b with
      | none => exact un.keep b o e q (by simp [frs]) (by simp)
      | some u =>
        rcases hO b with z | ⟨ob, xs, z⟩
        · cases q.symm.trans z
        · have k1 := (hok b _ z).1
          have k2 := (hok' b _ (un.frzs b ob _ z)).1
          cases e.symm.trans k1
          exact k2
  cases hk : K.lookup a with
  | some o =>
    cases ha.symm.trans (KX a o hk)
    refine core (fun _ => none) (fun _ => .inl rfl) (.inr ⟨_, vs.toArray, _, hk, rfl, rfl, rfl, ?_, by simpa using rv⟩) (fun _ _ z => nomatch (show (none : Option HO) = some _ from z)) (fun _ z => absurd rfl z) fun z => absurd rfl z
    rw [List.size_toArray, lenV]
    exact hl
  | none =>
    refine core (fun b => if b = a then some (.frz { cls := .type "list", data := .seq vs.toArray } (.lst (ns.map V.int))) else none) (fun b => ?_) ?_ (fun b u z => ?_) (fun b z => ?_) fun _ => hk
    · by_cases nb : b = a
      · right; exact ⟨_, _, if_pos nb⟩
      · left; exact if_neg nb
    · left; right; exact ⟨{ cls := .type "list", data := .seq vs.toArray }, if_pos rfl⟩
    · by_cases nb : b = a
      · cases (if_pos nb).symm.trans z
        subst nb
        exact ⟨ha, by rw [List.length_map]; exact hl, vs, _, rv, ha⟩
      · cases (if_neg nb).symm.trans z
    · by_cases nb : b = a
      · exact nb
      · exact absurd (if_neg nb) z
/-- the script as data -/
def scrD (ns : List Int) : D := .scr (ns.map D.int)
theorem scr_rep {K : PySem.W.Frag} {F : Hp} : ∀ ns : List Int, RepL K F (ns.map D.int) (ns.map V.int)
  | [] => .nil
  | n :: ns => .cons (.int n) (scr_rep ns)
end L2.G

namespace L2.G
open PySem PySem.Spec PyProof.Rows

section
variable {X : Cx} {tg a b c e : Expr} {fa fb fc fe : dE} {fr : dA} {p pos : Pos}
/-! a list or a tuple that is walked -/
def iS (fe : dE) : dI := fun ρ T k => fe ρ T fun d T1 => match d with | .lst xs => xs.length ≤ 1000000 ∧ k xs T1 | .tup xs => xs.length ≤ 1000000 ∧ k xs T1 | _ => False
theorem i_seq (he : PEd X e fe) : PId X tg e (iS fe) := by
  constructor
  rintro pins s σ H R I ⟨ρ, T, t, F, k, w, h, f⟩
  have key := he.run pins s σ H (fun x H1 => (∃ a xs, x = .ref a ∧ SqL X.K H1 a xs ∧ R (Itl X.K a) H1) ∨ ∃ a xs, x = .ref a ∧ SqT X.K H1 a xs ∧ R (Itt X.K a) H1) I ⟨ρ, T, t, F, _, w, h, fun v H1 F1 d T1 w1 g1 r1 h1 => by
    split at h1
    · obtain ⟨a, vs, rfl, hq, hr⟩ := rep_lst r1
      exact .inl ⟨a, vs, rfl, .of (w1.sub _ _ hq), f _ _ _ _ _ w1 g1 (src_list hq hr) h1.1 h1.2⟩
    · obtain ⟨a, vs, rfl, hq, hr⟩ := rep_tup r1
      exact .inr ⟨a, vs, rfl, same_t w1.sub hq, f _ _ _ _ _ w1 g1 (src_tup hq hr) h1.1 h1.2⟩
    · exact h1.elim⟩
  refine thn key fun v s1 ⟨x, H1, I1, r1, q1⟩ => ?_
  have fr : ∀ b ∈ [s1.heap.objs.size], FpOk X pins H1 b := fun b hb => by
    rw [List.mem_singleton.mp hb]
    exact I1.fpOk (Nat.le_refl _) (I1.hok.fresh (Nat.le_refl _))
  rcases q1 with ⟨a, xs, rfl, hq, q⟩ | ⟨a, xs, rfl, hq, q⟩
  · obtain rfl : v = Value.ref a := r1
    obtain ⟨its, _, pl, _⟩ := I1.list hq
    apply wpAny_pyIter_list pl.isList
    exact ⟨s1.heap.objs.size, _, _, _, H1, rfl, I1.kept (t' := s1.toks) fun b o z => Heap.get?_push_of_some _ z, turn_list a _, ⟨_, Heap.get?_push_size _ rfl, rfl, rfl⟩, fr, q⟩
  · obtain rfl : v = Value.ref a := r1
    obtain ⟨its, _, pl, _⟩ := I1.tuple hq
    apply wpAny_pyIter_tuple pl
    exact ⟨s1.heap.objs.size, _, _, _, H1, rfl, I1.kept (t' := s1.toks) fun b o z => Heap.get?_push_of_some _ z, turn_tuple a _, ⟨_, Heap.get?_push_size _ rfl, rfl, rfl⟩, fr, q⟩

/-! +, *, ==, != of any kind -/
def oAdd : Op2 := fun x y k => match x, y with
  | .int i, .int j => k (.int (i + j))
  | .lst xs, .lst ys => xs.length + ys.length ≤ 1000000 ∧ k (.lst (xs ++ ys))
  | .tup xs, .tup ys => xs.length + ys.length ≤ 1000000 ∧ k (.tup (xs ++ ys))
  | .str s, .str u => s.length + u.length ≤ 1000000 ∧ k (.str (s ++ u))
  | _, _ => False
theorem oAdd_ok {K : PySem.W.Frag} : OpS K (fun x y H Q => (rI0 (fun i j => .int (i + j))) x y H Q ∨ ((rCat x y H Q ∨ rCatA K x y H Q) ∨ ∃ i j, x = .str i ∧ y = .str j ∧ i.length + j.length ≤ sizeLine ∧ Q (.str (i ++ j)) H)) oAdd := by
  intro t F H T x y v w k Q wt r1 r2 q f
  unfold oAdd at q
  split at q
  · exact .inl (oI_ok wt r1 r2 q f)
  · exact .inr (oCat_ok wt r1 r2 q f)
  · exact .inr (oCat_ok wt r1 r2 q f)
  · exact .inr (oCat_ok wt r1 r2 q f)
  · exact q.elim
theorem d_plus (ha : PEd X a fa) (hb : PEd X b fb) : PEd X (.BinOp a .Add b pos) (dOp oAdd fa fb) := d_op (op_add.or ((op_cat.or op_catA).or op_add_str)) oAdd_ok ha hb
def repD (xs : List D) (n : Nat) : List D := (List.replicate n xs).flatten
theorem rep_flat {K : PySem.W.Frag} {F : Hp} {ds : List D} {vs : List V} (r : RepL K F ds vs) : ∀ n : Nat, RepL K F (repD ds n) (List.replicate n vs).flatten
  | 0 => .nil
  | n + 1 => by
    show RepL K F ((List.replicate (n + 1) ds).flatten) _
    rw [List.replicate_succ, List.flatten_cons, List.replicate_succ, List.flatten_cons]
    exact r.app (rep_flat r n)
def oMul : Op2 := fun x y k => match x, y with
  | .int i, .int j => MulOk i j ∧ k (.int (i * j))
  | .lst xs, .int n => (-(2 ^ 63) ≤ n ∧ n < 2 ^ 63 ∧ xs.length * n.toNat ≤ 1000000) ∧ k (.lst (repD xs n.toNat))
  | _, _ => False
theorem oMul_ok {K : PySem.W.Frag} : OpS K (fun x y H Q => (rI MulOk (fun i j => .int (i * j))) x y H Q ∨ rRep x y H Q) oMul := by
  intro t F H T x y v w k Q wt r1 r2 q f
  unfold oMul at q
  split at q
  · exact .inl (oIC_ok wt r1 r2 q f)
  · obtain ⟨a, vs, rfl, h1, r1⟩ := rep_lst r1
    cases r2
    exact .inr ⟨a, _, vs, rfl, rfl, wt.sub _ _ h1, q.1.1, q.1.2.1, by rw [← r1.len]; exact small_line q.1.2.2, fun p hp => f.lst wt (rep_flat r1 _) hp q.2⟩
  · exact q.elim
theorem d_times (ha : PEd X a fa) (hb : PEd X b fb) : PEd X (.BinOp a .Mult b pos) (dOp oMul fa fb) := d_op (op_mulQ.or op_rep) oMul_ok ha hb
def oEqU : Op2 := fun x y k => match x, y with
  | .int i, .int j => k (.bl (decide (i = j)))
  | .str i, .str j => k (.bl (decide (i = j)))
  | .bl i, .bl j => k (.bl (decide (i = j)))
  | x, y => x.eqOk ∧ y.eqOk ∧ k (.bl (eqD x y))
def oNeU : Op2 := fun x y k => match x, y with
  | .int i, .int j => k (.bl (!decide (i = j)))
  | .str i, .str j => k (.bl (!decide (i = j)))
  | .bl i, .bl j => k (.bl (!decide (i = j)))
  | x, y => x.eqOk ∧ y.eqOk ∧ k (.bl (!eqD x y))
theorem oEqU_ok {K : PySem.W.Frag} : OpS K (fun x y H Q => rEq x y H Q ∨ rEqD K x y H Q) oEqU := by
  intro t F H T x y v w k Q wt r1 r2 q f
  unfold oEqU at q
  split at q
  · exact .inl (oEqI_ok wt r1 r2 q f)
  · exact .inl (oEqI_ok wt r1 r2 q f)
  · exact .inl (oEqI_ok wt r1 r2 q f)
  · exact .inr (oEq_ok wt r1 r2 q f)
theorem oNeU_ok {K : PySem.W.Frag} : OpS K (fun x y H Q => rNe x y H Q ∨ rNeD K x y H Q) oNeU := by
  intro t F H T x y v w k Q wt r1 r2 q f
  unfold oNeU at q
  split at q
  · exact .inl (oNeI_ok wt r1 r2 q f)
  · exact .inl (oNeI_ok wt r1 r2 q f)
  · exact .inl (oNeI_ok wt r1 r2 q f)
  · exact .inr (oNe_ok wt r1 r2 q f)
theorem room66 {n : Nat} {A : Around} (r : Room n A) : A.units + 66 < cLine := by have := r.un; omega
variable {n : Nat}
/-- a constant of the module -/
def GC (K : PySem.W.Frag) (mg : Str → Option Value) (x : Str) (d : D) : Prop := ∃ v u, mg x = some u ∧ RelV v u ∧ ∀ F, Rep K F d v
theorem d_gc {x : Str} {d : D} (h : GC X.K X.mg x d) (hg : Gl X x := by rfl) (hd : (x == ("__debug__" : Str)) = false := by decide) : PEd X (.Name x pos) (dC d) := by
  obtain ⟨v, u, h1, h2, h3⟩ := h
  exact d_glob hg h1 h2 h3 hd
mutual
inductive GRep (K : PySem.W.Frag) : D → Value → Prop
  | int (i : Int) (t : Tok) : GRep K (.int i) (.int i t)
  | str (i : Str) (t : Tok) : GRep K (.str i) (.str i t)
  | bl (b : Bool) : GRep K (.bl b) (.bool b)
  | non : GRep K .non .none
  | tup {a : Addr} {dd : Option Addr} {its : Array Value} {n : Nat} {sl : Array (Option Value)} {ds : List D} : K.lookup a = some ⟨.type "tuple", dd, .seq its n, sl⟩ → GRepL K ds its.toList → its.size ≤ 1000000 → GRep K (.tup ds) (.ref a)
inductive GRepL (K : PySem.W.Frag) : List D → List Value → Prop
  | nil : GRepL K [] []
  | cons {d : D} {u : Value} {ds : List D} {us : List Value} : GRep K d u → GRepL K ds us → GRepL K (d :: ds) (u :: us)
end
mutual
theorem GRep.rep {K : PySem.W.Frag} : ∀ {d : D} {u : Value}, GRep K d u → ∃ v, RelV v u ∧ ∀ F, Rep K F d v
  | _, _, .int i t => ⟨.int i, ⟨t, rfl⟩, fun _ => .int i⟩
  | _, _, .str i t => ⟨.str i, ⟨t, rfl⟩, fun _ => .str i⟩
  | _, _, .bl b => ⟨.bl b, rfl, fun _ => .bl b⟩
  | _, _, .non => ⟨.non, rfl, fun _ => .non⟩
  | _, _, .tup (a := a) h q z => by
    obtain ⟨vs, h1, h2⟩ := GRepL.rep q
    exact ⟨.ref a, rfl, fun F => .tup (.inr ⟨_, _, _, h, rfl, rfl, small_line z, h1⟩) (h2 F)⟩
theorem GRepL.rep {K : PySem.W.Frag} : ∀ {ds : List D} {us : List Value}, GRepL K ds us → ∃ vs, Vals vs us ∧ ∀ F, RepL K F ds vs
  | _, _, .nil => ⟨[], .nil, fun _ => .nil⟩
  | _, _, .cons h q => by
    obtain ⟨v, h1, h2⟩ := GRep.rep h
    obtain ⟨vs, h3, h4⟩ := GRepL.rep q
    exact ⟨v :: vs, .cons h1 h3, fun F => .cons (h2 F) (h4 F)⟩
end
theorem gc_of {K : PySem.W.Frag} {mg : Str → Option Value} {h : Heap} {x : Str} {d : D} {u : Value} (X : K.In h) (G : h.Ns mainGlobals mg) (a : PySem.W.nsIn K mainGlobals x = some (some u)) (r : GRep K d u) : GC K mg x d := by
  obtain ⟨v, h1, h2⟩ := r.rep
  exact ⟨v, u, PySem.W.mg_of X G a, h1, h2⟩
/-- three at once -/
def sPar3 (i j l : Nat) (fr : dA) : dS := fun k ρ T => fr ρ T fun as T1 => match as with | [.val d, .val e, .val f] => k.nx (((ρ.set i (some (.val d))).set j (some (.val e))).set l (some (.val f))) T1 | _ => False
theorem s_par3 (i j l : Nat) {x y z : Str} {px py pz pt : Pos} {kt k2 pt2} (hc : X.calm = true) (hN : X.N.Nodup) (ha : PAd X [a, b, c] fr) (hw : swappedStores [.Tuple [.Name x px, .Name y py, .Name z pz] kt pt] (.Tuple [a, b, c] k2 pt2) X.env = pure (some [x, y, z]) := by rfl)
    (hi : X.N[i]? = some x := by rfl) (hj : X.N[j]? = some y := by rfl) (hl : X.N[l]? = some z := by rfl) (hij : i ≠ j := by decide) (hil : i ≠ l := by decide) (hjl : j ≠ l := by decide)
    (hx : X.env.scope.names.lookup x = some .local := by rfl) (hy : X.env.scope.names.lookup y = some .local := by rfl) (hz : X.env.scope.names.lookup z = some .local := by rfl)
    (hs : swapsWithSole [.Tuple [.Name x px, .Name y py, .Name z pz] kt pt] (.Tuple [a, b, c] k2 pt2) pos.line X.env = pure false := by rfl) :
    PSd X (.Assign [.Tuple [.Name x px, .Name y py, .Name z pz] kt pt] (.Tuple [a, b, c] k2 pt2) pos) (sPar3 i j l fr) := by
  refine ps_imp (ps_par3 hc hN hi hj hl hij hil hjl hx hy hz ha hw hs) fun E σ H h => ?_
  obtain ⟨ρ, T, t, F0, H0, F, k, w, h, fe⟩ := h
  refine ⟨ρ, T, t, F, _, w.w, h, fun vs H1 F1 as T1 w1 g1 r1 h1 => ?_⟩
  split at h1
  · cases r1 with
    | val r1 rr =>
      cases rr with
      | val r2 rr =>
        cases rr with
        | val r3 rr =>
          cases rr
          exact ⟨_, _, _, rfl, fe.nx _ _ _ _ _ ((((w.grow g1 w1).put r1).put r2).put r3) g1.sub h1⟩
  · exact h1.elim
end
end L2.G

namespace L2.G
open PySem PySem.Spec PyProof.Rows
theorem ixN_lit (l n : Nat) : ixN l (no_index (OfNat.ofNat n) : Int) = if n < l then some n else none := by
  have e : (no_index (OfNat.ofNat n) : Int) = (n : Int) := rfl
  rw [e]
  unfold ixN
  rw [if_pos (Int.natCast_nonneg n)]
  by_cases h : n < l
  · rw [if_pos h, if_pos (by omega)]; rfl
  · rw [if_neg h, if_neg (by omega)]
theorem atI_lit {α : Type} (xs : List α) (n : Nat) : atI xs (no_index (OfNat.ofNat n) : Int) = xs[n]? := by
  unfold atI
  rw [ixN_lit]
  by_cases h : n < xs.length
  · rw [if_pos h]; rfl
  · rw [if_neg h]; exact (List.getElem?_eq_none (by omega)).symm
theorem atI_nat' {α : Type} (xs : List α) (n : Nat) : atI xs (n : Int) = xs[n]? := atI_lit xs n
theorem atI_m1 {α : Type} (xs : List α) : atI xs (-1) = xs[xs.length - 1]? := by
  unfold atI ixN
  rw [if_neg (by decide)]
  by_cases h : xs = []
  · subst h; rfl
  · have : 0 < xs.length := List.length_pos_iff.mpr h
    rw [if_pos (by omega)]
    show xs[((-1 : Int) + xs.length).toNat]? = _
    congr 1
    omega
/-- sizes -/
def Sz (n : Nat) (i : Int) : Prop := i.natAbs < 2 ^ n
theorem Sz.mono {m n : Nat} {i : Int} (h : Sz m i) (l : m ≤ n) : Sz n i := Nat.lt_of_lt_of_le h (Nat.pow_le_pow_right (by decide) l)
theorem Sz.add {m n : Nat} {i j : Int} (h : Sz m i) (q : Sz n j) : Sz (max m n + 1) (i + j) := by
  have h1 := h.mono (Nat.le_max_left m n)
  have h2 := q.mono (Nat.le_max_right m n)
  unfold Sz at *
  rw [Nat.pow_succ]
  omega
theorem Sz.sub {m n : Nat} {i j : Int} (h : Sz m i) (q : Sz n j) : Sz (max m n + 1) (i - j) := by
  have h1 := h.mono (Nat.le_max_left m n)
  have h2 := q.mono (Nat.le_max_right m n)
  unfold Sz at *
  rw [Nat.pow_succ]
  omega
theorem Sz.neg {m : Nat} {i : Int} (h : Sz m i) : Sz m (-i) := by unfold Sz at *; omega
theorem Sz.mul {m n : Nat} {i j : Int} (h : Sz m i) (q : Sz n j) : Sz (m + n) (i * j) := wide_lt h q
theorem Sz.mulOk {m n : Nat} {i j : Int} (h : Sz m i) (q : Sz n j) (l : m ≤ 400000) (l' : n ≤ 400000) : MulOk i j := .inr ⟨h.mono l, q.mono l'⟩
theorem Sz.divOk {n : Nat} {i j : Int} (q : Sz n j) (l : n ≤ 9000) (h : 0 < j) : DivOk i j := ⟨h, q.mono l⟩
theorem Sz.small {i : Int} (h : i.natAbs < 2 ^ 64) : Sz 64 i := h
theorem Sz.ediv {m : Nat} {i j : Int} (h : Sz m i) : Sz m (i / j) := by
  unfold Sz at *
  exact Nat.lt_of_le_of_lt (Int.natAbs_ediv_le_natAbs i j) h
theorem sIx_lit (n d k : Nat) : HT.sIx n d (some (no_index (OfNat.ofNat k) : Int)) = min k n := HT.sIx_nat n d k
theorem cut_none {xs : List D} : cutD xs none none = xs := by
  unfold cutD
  simp [HT.sIx_none]
theorem cut_to {xs : List D} (k : Nat) : cutD xs none (some (no_index (OfNat.ofNat k) : Int)) = xs.take k := by
  unfold cutD
  rw [sIx_lit, HT.sIx_none, List.drop_zero, Nat.sub_zero]
  by_cases h : k ≤ xs.length
  · rw [Nat.min_eq_left h]
  · rw [Nat.min_eq_right (by omega), List.take_length, List.take_of_length_le (by omega)]
theorem cut_from {xs : List D} (k : Nat) : cutD xs (some (no_index (OfNat.ofNat k) : Int)) none = xs.drop k := by
  unfold cutD
  rw [sIx_lit, HT.sIx_none]
  by_cases h : k ≤ xs.length
  · rw [Nat.min_eq_left h, List.take_of_length_le (by simp)]
  · rw [Nat.min_eq_right (by omega), Nat.sub_self, List.take_zero, List.drop_eq_nil_of_le (by omega)]
theorem cut_fromto {xs : List D} (j k : Nat) : cutD xs (some (no_index (OfNat.ofNat j) : Int)) (some (no_index (OfNat.ofNat k) : Int)) = (xs.take k).drop j := by
  unfold cutD
  rw [sIx_lit, sIx_lit, List.drop_take]
  by_cases h : j ≤ xs.length
  · rw [Nat.min_eq_left h]
    by_cases h2 : k ≤ xs.length
    · rw [Nat.min_eq_left h2]
    · rw [Nat.min_eq_right (by omega), List.take_of_length_le (by simp), List.take_of_length_le (by simp; omega)]
  · rw [Nat.min_eq_right (show xs.length ≤ j by omega), List.drop_eq_nil_of_le (show xs.length ≤ xs.length from Nat.le_refl _), List.drop_eq_nil_of_le (show xs.length ≤ j by omega), List.take_nil, List.take_nil]
end L2.G

namespace L2.G
open PySem PySem.Spec PyProof.Rows
/-! the same operations as functions of data: what must hold, and the value -/
abbrev PD := Option (Prop × D)
def oF (f : D → D → PD) : Op2 := fun x y k => match f x y with | some p => p.1 ∧ k p.2 | none => False
def oG (f : List D → PD) (ds : List D) (k : D → Prop) : Prop := match f ds with | some p => p.1 ∧ k p.2 | none => False
theorem OpS.imp {K : PySem.W.Frag} {r : R2} {o o' : Op2} (h : OpS K r o) (i : ∀ x y k, o' x y k → o x y k) : OpS K r o' := fun w r1 r2 q f => h w r1 r2 (i _ _ _ q) f
theorem BltS.imp {K : PySem.W.Frag} {r : List V → Hp → VK → Prop} {o o' : List D → (D → Prop) → Prop} (h : BltS K r o) (i : ∀ ds k, o' ds k → o ds k) : BltS K r o' := fun w r1 q f => h w r1 (i _ _ q) f
def fAdd : D → D → PD
  | .int i, .int j => some (True, .int (i + j))
  | .lst xs, .lst ys => some (xs.length + ys.length ≤ 1000000, .lst (xs ++ ys))
  | .tup xs, .tup ys => some (xs.length + ys.length ≤ 1000000, .tup (xs ++ ys))
  | .str s, .str u => some (s.length + u.length ≤ 1000000, .str (s ++ u))
  | _, _ => none
def fSub : D → D → PD
  | .int i, .int j => some (True, .int (i - j))
  | .bl b, .bl c => some (True, .int (b2i b - b2i c))
  | _, _ => none
def rSubB (x y : V) (H : Hp) (Q : VK) : Prop := ∃ b c : Bool, x = .bl b ∧ y = .bl c ∧ Q (.int (b2i b - b2i c)) H
theorem op_subB {X : Cx} : OpR X (binaryOp .Sub) rSubB := by
  intro pins s σ H x y v u Q I rx ry h
  obtain ⟨b, c, rfl, rfl, q⟩ := h
  cases rx
  cases ry
  exact PyProof.Rows.sub_bool ⟨.int (b2i b - b2i c), H, I.tok _, ⟨_, rfl⟩, q⟩
def oSubB : Op2 := fun x y k => match x, y with
  | .int i, .int j => k (.int (i - j))
  | .bl b, .bl c => k (.int (b2i b - b2i c))
  | _, _ => False
theorem oSubB_ok {K : PySem.W.Frag} : OpS K (fun x y H Q => (rI0 (fun i j => .int (i - j))) x y H Q ∨ rSubB x y H Q) oSubB := by
  intro t F H T x y v w k Q wt r1 r2 q f
  unfold oSubB at q
  split at q
  · exact .inl (oI_ok wt r1 r2 q f)
  · cases r1
    cases r2
    exact .inr ⟨_, _, rfl, rfl, f.val wt (.int _) q⟩
  · exact q.elim
def fMul : D → D → PD
  | .int i, .int j => some (MulOk i j, .int (i * j))
  | .lst xs, .int n => some (-(2 ^ 63) ≤ n ∧ n < 2 ^ 63 ∧ xs.length * n.toNat ≤ 1000000, .lst (repD xs n.toNat))
  | _, _ => none
def fDiv : D → D → PD | .int i, .int j => some (DivOk i j, .int (i / j)) | _, _ => none
def fMod : D → D → PD | .int i, .int j => some (0 < j, .int (i % j)) | _, _ => none
def fPow : D → D → PD | .int i, .int j => some (CPow i j, .int (i ^ j.toNat)) | _, _ => none
def fShl : D → D → PD | .int i, .int j => some (CPow i j, .int (i * 2 ^ j.toNat)) | _, _ => none
def fLt : D → D → PD | .int i, .int j => some (True, .bl (decide (i < j))) | _, _ => none
def fLe : D → D → PD | .int i, .int j => some (True, .bl (decide (i ≤ j))) | _, _ => none
def fGt : D → D → PD | .int i, .int j => some (True, .bl (decide (j < i))) | _, _ => none
def fGe : D → D → PD | .int i, .int j => some (True, .bl (decide (j ≤ i))) | _, _ => none
def fEq (x y : D) : PD := match x, y with
  | .int i, .int j => some (True, .bl (decide (i = j)))
  | .str i, .str j => some (True, .bl (decide (i = j)))
  | .bl i, .bl j => some (True, .bl (decide (i = j)))
  | x, y => some (x.eqOk ∧ y.eqOk, .bl (eqD x y))
def fNe (x y : D) : PD := match x, y with
  | .int i, .int j => some (True, .bl (!decide (i = j)))
  | .str i, .str j => some (True, .bl (!decide (i = j)))
  | .bl i, .bl j => some (True, .bl (!decide (i = j)))
  | x, y => some (x.eqOk ∧ y.eqOk, .bl (!eqD x y))
theorem fEq_int {i j : Int} : fEq (.int i) (.int j) = some (True, .bl (decide (i = j))) := rfl
theorem fEq_str {i j : Str} : fEq (.str i) (.str j) = some (True, .bl (decide (i = j))) := rfl
theorem fEq_bl {i j : Bool} : fEq (.bl i) (.bl j) = some (True, .bl (decide (i = j))) := rfl
theorem fEq_tup {x y : List D} : fEq (.tup x) (.tup y) = some ((D.tup x).eqOk ∧ (D.tup y).eqOk, .bl (eqD (.tup x) (.tup y))) := rfl
theorem fEq_lst {x y : List D} : fEq (.lst x) (.lst y) = some ((D.lst x).eqOk ∧ (D.lst y).eqOk, .bl (eqD (.lst x) (.lst y))) := rfl
theorem fEq_tn {x : List D} : fEq (.tup x) .non = some ((D.tup x).eqOk ∧ D.non.eqOk, .bl (eqD (.tup x) .non)) := rfl
theorem fEq_nt {x : List D} : fEq .non (.tup x) = some (D.non.eqOk ∧ (D.tup x).eqOk, .bl (eqD .non (.tup x))) := rfl
theorem fEq_nn : fEq .non .non = some (D.non.eqOk ∧ D.non.eqOk, .bl (eqD .non .non)) := rfl
theorem fNe_int {i j : Int} : fNe (.int i) (.int j) = some (True, .bl (!decide (i = j))) := rfl
theorem fNe_str {i j : Str} : fNe (.str i) (.str j) = some (True, .bl (!decide (i = j))) := rfl
theorem fNe_bl {i j : Bool} : fNe (.bl i) (.bl j) = some (True, .bl (!decide (i = j))) := rfl
theorem fNe_tup {x y : List D} : fNe (.tup x) (.tup y) = some ((D.tup x).eqOk ∧ (D.tup y).eqOk, .bl (!eqD (.tup x) (.tup y))) := rfl
theorem fNe_lst {x y : List D} : fNe (.lst x) (.lst y) = some ((D.lst x).eqOk ∧ (D.lst y).eqOk, .bl (!eqD (.lst x) (.lst y))) := rfl
theorem fNe_tn {x : List D} : fNe (.tup x) .non = some ((D.tup x).eqOk ∧ D.non.eqOk, .bl (!eqD (.tup x) .non)) := rfl
theorem fNe_nt {x : List D} : fNe .non (.tup x) = some (D.non.eqOk ∧ (D.tup x).eqOk, .bl (!eqD .non (.tup x))) := rfl
theorem fNe_nn : fNe .non .non = some (D.non.eqOk ∧ D.non.eqOk, .bl (!eqD .non .non)) := rfl
def fIn (x y : D) : PD := match y with | .lst ys => some (x.eqOk ∧ D.eqOk (.lst ys), .bl (ys.any fun z => eqD z x)) | _ => none
def fNotIn (x y : D) : PD := match y with | .lst ys => some (x.eqOk ∧ D.eqOk (.lst ys), .bl (!ys.any fun z => eqD z x)) | _ => none
def D.seq? : D → Option (List D) | .tup xs => some xs | .lst xs => some xs | .scr xs => some xs | _ => none
def fIx (x y : D) : PD := match y with | .int i => (match x.seq? with | some xs => (match atI xs i with | some d => some (True, d) | none => none) | none => none) | _ => none
theorem fAdd_ok {x y : D} {k : D → Prop} (h : oF fAdd x y k) : oAdd x y k := by cases x <;> cases y <;> first | exact h.elim | (obtain ⟨h1, h2⟩ := h; first | exact h2 | exact ⟨h1, h2⟩)
theorem fSub_ok {x y : D} {k : D → Prop} (h : oF fSub x y k) : oSubB x y k := by cases x <;> cases y <;> first | exact h.elim | exact h.2
theorem fMul_ok {x y : D} {k : D → Prop} (h : oF fMul x y k) : oMul x y k := by cases x <;> cases y <;> first | exact h.elim | exact h
theorem fDiv_ok {x y : D} {k : D → Prop} (h : oF fDiv x y k) : oIC DivOk (fun i j => i / j) x y k := by cases x <;> cases y <;> first | exact h.elim | exact h
theorem fMod_ok {x y : D} {k : D → Prop} (h : oF fMod x y k) : oIC (fun _ j => 0 < j) (fun i j => i % j) x y k := by cases x <;> cases y <;> first | exact h.elim | exact h
theorem fPow_ok {x y : D} {k : D → Prop} (h : oF fPow x y k) : oIC CPow (fun i j => i ^ j.toNat) x y k := by cases x <;> cases y <;> first | exact h.elim | exact h
theorem fLt_ok {x y : D} {k : D → Prop} (h : oF fLt x y k) : oB (fun i j => decide (i < j)) x y k := by cases x <;> cases y <;> first | exact h.elim | exact h.2
theorem fLe_ok {x y : D} {k : D → Prop} (h : oF fLe x y k) : oB (fun i j => decide (i ≤ j)) x y k := by cases x <;> cases y <;> first | exact h.elim | exact h.2
theorem fGt_ok {x y : D} {k : D → Prop} (h : oF fGt x y k) : oB (fun i j => decide (j < i)) x y k := by cases x <;> cases y <;> first | exact h.elim | exact h.2
theorem fGe_ok {x y : D} {k : D → Prop} (h : oF fGe x y k) : oB (fun i j => decide (j ≤ i)) x y k := by cases x <;> cases y <;> first | exact h.elim | exact h.2
theorem fEq_ok {x y : D} {k : D → Prop} (h : oF fEq x y k) : oEqU x y k := by cases x <;> cases y <;> first | exact h.2 | exact ⟨h.1.1, h.1.2, h.2⟩
theorem fNe_ok {x y : D} {k : D → Prop} (h : oF fNe x y k) : oNeU x y k := by cases x <;> cases y <;> first | exact h.2 | exact ⟨h.1.1, h.1.2, h.2⟩
theorem fIx_ok {x y : D} {k : D → Prop} (h : oF fIx x y k) : oIx x y k := by
  cases y <;> first | exact h.elim | skip
  rename_i i
  cases x <;> first | exact h.elim | skip
  all_goals
    rename_i xs
    unfold oF fIx D.seq? at h
    unfold oIx
    simp only at h ⊢
    cases e : atI xs i with
    | none => rw [e] at h; exact h.elim
    | some d => rw [e] at h; exact h.2
section
variable {X : Cx} {a b e : Expr} {fa fb fe : dE} {fr : dA} {p pos : Pos} {n : Nat} {es : List Expr} {tg : Expr}
theorem f_add (ha : PEd X a fa) (hb : PEd X b fb) : PEd X (.BinOp a .Add b pos) (dOp (oF fAdd) fa fb) := d_op (op_add.or ((op_cat.or op_catA).or op_add_str)) (oAdd_ok.imp fun _ _ _ => fAdd_ok) ha hb
theorem f_sub (ha : PEd X a fa) (hb : PEd X b fb) : PEd X (.BinOp a .Sub b pos) (dOp (oF fSub) fa fb) := d_op (op_sub.or op_subB) (oSubB_ok.imp fun _ _ _ => fSub_ok) ha hb
theorem f_mul (ha : PEd X a fa) (hb : PEd X b fb) : PEd X (.BinOp a .Mult b pos) (dOp (oF fMul) fa fb) := d_op (op_mulQ.or op_rep) (oMul_ok.imp fun _ _ _ => fMul_ok) ha hb
theorem f_div (ha : PEd X a fa) (hb : PEd X b fb) : PEd X (.BinOp a .FloorDiv b pos) (dOp (oF fDiv) fa fb) := d_op op_divQ (oIC_ok.imp fun _ _ _ => fDiv_ok) ha hb
theorem f_mod (ha : PEd X a fa) (hb : PEd X b fb) : PEd X (.BinOp a .Mod b pos) (dOp (oF fMod) fa fb) := d_op op_mod (oIC_ok.imp fun _ _ _ => fMod_ok) ha hb
theorem f_pow (ha : PEd X a fa) (hb : PEd X b fb) : PEd X (.BinOp a .Pow b pos) (dOp (oF fPow) fa fb) := d_op op_pow (oIC_ok.imp fun _ _ _ => fPow_ok) ha hb
theorem f_ix (ha : PEd X a fa) (hb : PEd X b fb) (hs : PlainIx b := by exact fun _ _ => rfl) : PEd X (.Subscript a b pos) (dOp (oF fIx) fa fb) :=
  pe_imp (pe_ix (ix_list.or ix_tup) ha hb hs) fun σ H Q h => two (o := fun x y T k => oF fIx x y fun d => k d T) (R := fun x y H Q => rIxL X.K x y H Q ∨ rIxT X.K x y H Q) (fun w r1 r2 q f => oIx_ok w r1 r2 (fIx_ok q) f) h
theorem d_fgt (ha : PEd X a fa) (hb : PEd X b fb) : PEd X (.Compare a [.Gt] [b] pos) (dOp (oF fGt) fa fb) := d_cmp op_gt (oB_ok.imp fun _ _ _ => fGt_ok) ha hb (nomark _)
theorem t_flt (ha : PEd X a fa) (hb : PEd X b fb) : PTd X (.Compare a [.Lt] [b] pos) (dTst (dOp (oF fLt) fa fb)) := d_tcmp op_lt (oB_ok.imp fun _ _ _ => fLt_ok) ha hb (nomark _)
theorem t_fle (ha : PEd X a fa) (hb : PEd X b fb) : PTd X (.Compare a [.LtE] [b] pos) (dTst (dOp (oF fLe) fa fb)) := d_tcmp op_le (oB_ok.imp fun _ _ _ => fLe_ok) ha hb (nomark _)
theorem t_fgt (ha : PEd X a fa) (hb : PEd X b fb) : PTd X (.Compare a [.Gt] [b] pos) (dTst (dOp (oF fGt) fa fb)) := d_tcmp op_gt (oB_ok.imp fun _ _ _ => fGt_ok) ha hb (nomark _)
theorem t_fge (ha : PEd X a fa) (hb : PEd X b fb) : PTd X (.Compare a [.GtE] [b] pos) (dTst (dOp (oF fGe) fa fb)) := d_tcmp op_ge (oB_ok.imp fun _ _ _ => fGe_ok) ha hb (nomark _)
theorem d_feq (hr : Room n X.A) (ha : PEd X a fa) (hb : PEd X b fb) : PEd X (.Compare a [.Eq] [b] pos) (dOp (oF fEq) fa fb) := d_cmp (op_eq.or (op_eqD (by have := room66 hr; omega))) (oEqU_ok.imp fun _ _ _ => fEq_ok) ha hb (nomark _)
theorem t_feq (hr : Room n X.A) (ha : PEd X a fa) (hb : PEd X b fb) : PTd X (.Compare a [.Eq] [b] pos) (dTst (dOp (oF fEq) fa fb)) := d_tcmp (op_eq.or (op_eqD (by have := room66 hr; omega))) (oEqU_ok.imp fun _ _ _ => fEq_ok) ha hb (nomark _)
theorem t_fne (hr : Room n X.A) (ha : PEd X a fa) (hb : PEd X b fb) : PTd X (.Compare a [.NotEq] [b] pos) (dTst (dOp (oF fNe) fa fb)) := d_tcmp (op_ne.or (op_neD (by have := room66 hr; omega))) (oNeU_ok.imp fun _ _ _ => fNe_ok) ha hb (nomark _)
/-! built-ins -/
def fLen : List D → PD | [d] => (match d.seq? with | some xs => some (True, .int xs.length) | none => none) | _ => none
def fI1 (g : Int → Int) : List D → PD | [.int i] => some (True, .int (g i)) | _ => none
def fI2 (g : Int → Int → Int) : List D → PD | [.int i, .int j] => some (True, .int (g i j)) | _ => none
def fInt : List D → PD | [.int i] => some (True, .int i) | [.bl b] => some (True, .int (if b then 1 else 0)) | _ => none
def fSqrt : List D → PD | [.int i] => some (0 ≤ i ∧ i.natAbs < 2 ^ 13000, .int ((Float64.isqrt i.toNat : Nat) : Int)) | _ => none
def fDivmod : List D → PD | [.int i, .int j] => some (DmOk i j, .tup [.int (i / j), .int (i % j)]) | _ => none
def fAll : List D → PD | [.lst xs] => (match bls? xs with | some bs => some (True, .bl (bs.all fun b => b)) | none => none) | _ => none
def fAny : List D → PD | [.lst xs] => (match bls? xs with | some bs => some (True, .bl (bs.any fun b => b)) | none => none) | _ => none
def fSum : List D → PD | [.lst xs] => (match nums? xs with | some bs => some (True, .int bs.sum) | none => none) | _ => none
def fTuple : List D → PD | [.lst xs] => some (True, .tup xs) | [.tup xs] => some (True, .tup xs) | _ => none
def fList : List D → PD | [d] => (match d.seq? with | some xs => some (True, .lst xs) | none => none) | _ => none
def fRepr : List D → PD | [.int i] => some (i.natAbs.log2 < 1920, .str (toString i)) | [.tup xs] => some (D.shOk (.tup xs), .str (D.py (.tup xs)).shown) | [.lst xs] => some (D.shOk (.lst xs), .str (D.py (.lst xs)).shown) | [.bl b] => some (True, .str (if b then "True" else "False")) | [.non] => some (True, .str "None") | _ => none
theorem fLen_ok {ds : List D} {k : D → Prop} (h : oG fLen ds k) : oLen ds k := by
  cases ds with
  | nil => exact h.elim
  | cons d r => cases r with
    | nil => cases d <;> first | exact h.elim | exact h.2
    | cons _ _ => cases d <;> exact h.elim
theorem one_ok {f : List D → PD} {o : List D → (D → Prop) → Prop} (h0 : ∀ k, oG f [] k → o [] k) (h1 : ∀ d k, oG f [d] k → o [d] k) (h2 : ∀ d e r k, oG f (d :: e :: r) k → o (d :: e :: r) k) {ds : List D} {k : D → Prop} (h : oG f ds k) : o ds k := by
  match ds with
  | [] => exact h0 k h
  | [d] => exact h1 d k h
  | d :: e :: r => exact h2 d e r k h
theorem fI1_ok {g : Int → Int} {ds : List D} {k : D → Prop} (h : oG (fI1 g) ds k) : o1 g ds k := by
  refine one_ok (f := fI1 g) (o := o1 g) ?_ ?_ ?_ h
  · intro k h; exact h.elim
  · intro d k h; cases d <;> first | exact h.elim | exact h.2
  · intro d e r k h; cases d <;> exact h.elim
theorem fI2_ok {g : Int → Int → Int} {ds : List D} {k : D → Prop} (h : oG (fI2 g) ds k) : o2 g ds k := by
  refine one_ok (f := fI2 g) (o := o2 g) ?_ ?_ ?_ h
  · intro k h; exact h.elim
  · intro d k h; cases d <;> exact h.elim
  · intro d e r k h
    cases r with
    | nil => cases d <;> cases e <;> first | exact h.elim | exact h.2
    | cons _ _ => cases d <;> cases e <;> exact h.elim
theorem fInt_ok {ds : List D} {k : D → Prop} (h : oG fInt ds k) : oIntB ds k := by
  refine one_ok (f := fInt) (o := oIntB) ?_ ?_ ?_ h
  · intro k h; exact h.elim
  · intro d k h; cases d <;> first | exact h.elim | exact h.2
  · intro d e r k h; cases d <;> exact h.elim
theorem fDivmod_ok {ds : List D} {k : D → Prop} (h : oG fDivmod ds k) : oDivmod ds k := by
  refine one_ok (f := fDivmod) (o := oDivmod) ?_ ?_ ?_ h
  · intro k h; exact h.elim
  · intro d k h; cases d <;> exact h.elim
  · intro d e r k h
    cases r with
    | nil => cases d <;> cases e <;> first | exact h.elim | exact h
    | cons _ _ => cases d <;> cases e <;> exact h.elim
theorem fAll_ok {ds : List D} {k : D → Prop} (h : oG fAll ds k) : oAll ds k := by
  refine one_ok (f := fAll) (o := oAll) ?_ ?_ ?_ h
  · intro k h; exact h.elim
  · intro d k h
    cases d <;> first | exact h.elim | skip
    rename_i xs
    unfold oG fAll at h
    unfold oAll
    simp only at h ⊢
    cases q : bls? xs with
    | none => rw [q] at h; exact h.elim
    | some bs => rw [q] at h; exact h.2
  · intro d e r k h; cases d <;> exact h.elim
theorem fTuple_ok {ds : List D} {k : D → Prop} (h : oG fTuple ds k) : oTuple ds k := by
  refine one_ok (f := fTuple) (o := oTuple) ?_ ?_ ?_ h
  · intro k h; exact h.elim
  · intro d k h; cases d <;> first | exact h.elim | exact h.2
  · intro d e r k h; cases d <;> exact h.elim
theorem fList_ok {ds : List D} {k : D → Prop} (h : oG fList ds k) : oList ds k := by
  refine one_ok (f := fList) (o := oList) ?_ ?_ ?_ h
  · intro k h; exact h.elim
  · intro d k h; cases d <;> first | exact h.elim | exact h.2
  · intro d e r k h; cases d <;> exact h.elim
theorem fRepr_ok {ds : List D} {k : D → Prop} (h : oG fRepr ds k) : oRepr ds k := by
  refine one_ok (f := fRepr) (o := oRepr) ?_ ?_ ?_ h
  · intro k h; exact h.elim
  · intro d k h; cases d <;> first | exact h.elim | exact h | exact h.2
  · intro d e r k h; cases d <;> exact h.elim
theorem g_len (hm : X.mg "len" = none) (ha : PAd X (e :: es) fr) (hg : Gl X "len" := by rfl)
    (he : starEach (e :: es) X.env = (false, eval e X.env) :: starEach es X.env := by rfl) (hp : (backTo pos (starEach es X.env)).any (·.1) = false := by rfl) : PEd X (.Call (.Name "len" p) (e :: es) [] pos) (dBlt (oG fLen) fr) := d_blt call_len_seq (oLen_ok.imp fun _ _ => fLen_ok) hm ha boot_len hg (by decide) (by decide) he hp
abbrev iAbs : Int → Int := fun i => if i < 0 then -i else i
abbrev iMax : Int → Int → Int := fun i j => if j > i then j else i
abbrev iMin : Int → Int → Int := fun i j => if j < i then j else i
abbrev iGcd : Int → Int → Int := fun a b => ((Nat.gcd a.natAbs b.natAbs : Nat) : Int)
theorem boot_abs' : bootBuiltins "abs" = some (.builtin "abs") := by decide +kernel
theorem boot_max' : bootBuiltins "max" = some (.builtin "max") := by decide +kernel
theorem boot_min' : bootBuiltins "min" = some (.builtin "min") := by decide +kernel
theorem boot_int' : bootBuiltins "int" = some (.type "int") := by decide +kernel
theorem boot_divmod' : bootBuiltins "divmod" = some (.builtin "divmod") := by decide +kernel
theorem boot_all' : bootBuiltins "all" = some (.builtin "all") := by decide +kernel
theorem boot_tuple' : bootBuiltins "tuple" = some (.type "tuple") := by decide +kernel
theorem boot_list' : bootBuiltins "list" = some (.type "list") := by decide +kernel
theorem boot_repr' : bootBuiltins "repr" = some (.builtin "repr") := by decide +kernel
theorem g_abs (hm : X.mg "abs" = none) (ha : PAd X (e :: es) fr) (hg : Gl X "abs" := by rfl)
    (he : starEach (e :: es) X.env = (false, eval e X.env) :: starEach es X.env := by rfl) (hp : (backTo pos (starEach es X.env)).any (·.1) = false := by rfl) : PEd X (.Call (.Name "abs" p) (e :: es) [] pos) (dBlt (oG (fI1 iAbs)) fr) := d_blt call_abs (o1_ok.imp fun _ _ => fI1_ok) hm ha boot_abs' hg (by decide) (by decide) he hp
theorem g_max2 (hc : X.calm = true) (hm : X.mg "max" = none) (ha : PAd X (e :: es) fr) (hg : Gl X "max" := by rfl)
    (he : starEach (e :: es) X.env = (false, eval e X.env) :: starEach es X.env := by rfl) (hp : (backTo pos (starEach es X.env)).any (·.1) = false := by rfl) : PEd X (.Call (.Name "max" p) (e :: es) [] pos) (dBlt (oG (fI2 iMax)) fr) := d_blt (call_max2 hc) (o2_ok.imp fun _ _ => fI2_ok) hm ha boot_max' hg (by decide) (by decide) he hp
theorem g_min2 (hc : X.calm = true) (hm : X.mg "min" = none) (ha : PAd X (e :: es) fr) (hg : Gl X "min" := by rfl)
    (he : starEach (e :: es) X.env = (false, eval e X.env) :: starEach es X.env := by rfl) (hp : (backTo pos (starEach es X.env)).any (·.1) = false := by rfl) : PEd X (.Call (.Name "min" p) (e :: es) [] pos) (dBlt (oG (fI2 iMin)) fr) := d_blt (call_min2 hc) (o2_ok.imp fun _ _ => fI2_ok) hm ha boot_min' hg (by decide) (by decide) he hp
theorem g_gcd (hm : X.mg "gcd" = some (.builtin "math.gcd")) (ha : PAd X (e :: es) fr) (hg : Gl X "gcd" := by rfl)
    (he : starEach (e :: es) X.env = (false, eval e X.env) :: starEach es X.env := by rfl) (hp : (backTo pos (starEach es X.env)).any (·.1) = false := by rfl) : PEd X (.Call (.Name "gcd" p) (e :: es) [] pos) (dBlt (oG (fI2 iGcd)) fr) := d_bfun cr_gcd (o2_ok.imp fun _ _ => fI2_ok) hm ha hg (by decide) he hp
theorem g_toint (hm : X.mg "int" = none) (ha : PAd X (e :: es) fr) (hg : Gl X "int" := by rfl)
    (he : starEach (e :: es) X.env = (false, eval e X.env) :: starEach es X.env := by rfl) (hp : (backTo pos (starEach es X.env)).any (·.1) = false := by rfl) : PEd X (.Call (.Name "int" p) (e :: es) [] pos) (dBlt (oG fInt) fr) := d_blty call_int1 (oIntB_ok.imp fun _ _ => fInt_ok) hm ha boot_int' hg (by decide) (by decide) he hp
theorem g_divmod (hm : X.mg "divmod" = none) (ha : PAd X (e :: es) fr) (hg : Gl X "divmod" := by rfl)
    (he : starEach (e :: es) X.env = (false, eval e X.env) :: starEach es X.env := by rfl) (hp : (backTo pos (starEach es X.env)).any (·.1) = false := by rfl) : PEd X (.Call (.Name "divmod" p) (e :: es) [] pos) (dBlt (oG fDivmod) fr) := d_blt call_divmodQ (oDivmod_ok.imp fun _ _ => fDivmod_ok) hm ha boot_divmod' hg (by decide) (by decide) he hp
theorem g_all (hc : X.calm = true) (hm : X.mg "all" = none) (ha : PAd X (e :: es) fr) (hg : Gl X "all" := by rfl)
    (he : starEach (e :: es) X.env = (false, eval e X.env) :: starEach es X.env := by rfl) (hp : (backTo pos (starEach es X.env)).any (·.1) = false := by rfl) : PEd X (.Call (.Name "all" p) (e :: es) [] pos) (dBlt (oG fAll) fr) := d_blt (cr_all hc) (oAll_ok.imp fun _ _ => fAll_ok) hm ha boot_all' hg (by decide) (by decide) he hp
theorem g_totup (hm : X.mg "tuple" = none) (ha : PAd X (e :: es) fr) (hg : Gl X "tuple" := by rfl)
    (he : starEach (e :: es) X.env = (false, eval e X.env) :: starEach es X.env := by rfl) (hp : (backTo pos (starEach es X.env)).any (·.1) = false := by rfl) : PEd X (.Call (.Name "tuple" p) (e :: es) [] pos) (dBlt (oG fTuple) fr) := d_blty call_tuple_of (oTuple_ok.imp fun _ _ => fTuple_ok) hm ha boot_tuple' hg (by decide) (by decide) he hp
theorem g_tolist (hm : X.mg "list" = none) (ha : PAd X (e :: es) fr) (hg : Gl X "list" := by rfl)
    (he : starEach (e :: es) X.env = (false, eval e X.env) :: starEach es X.env := by rfl) (hp : (backTo pos (starEach es X.env)).any (·.1) = false := by rfl) : PEd X (.Call (.Name "list" p) (e :: es) [] pos) (dBlt (oG fList) fr) := d_blty call_list_of (oList_ok.imp fun _ _ => fList_ok) hm ha boot_list' hg (by decide) (by decide) he hp
/-! walks, slices -/
def D.it? : D → Option (List D) | .tup xs => some xs | .lst xs => some xs | _ => none
def iQ (fe : dE) : dI := fun ρ T k => fe ρ T fun d T1 => match d.it? with | some xs => xs.length ≤ 1000000 ∧ k xs T1 | none => False
theorem iQ_eq (fe : dE) : iQ fe = iS fe := by
  funext ρ T k
  unfold iQ iS
  congr 1
  funext d T1
  cases d <;> rfl
theorem g_seq (he : PEd X e fe) : PId X tg e (iQ fe) := by
  rw [iQ_eq]
  exact i_seq he
def D.cut? (d : D) (l h : Option Int) : Option D := match d with | .lst xs => some (.lst (cutD xs l h)) | .scr xs => some (.lst (cutD xs l h)) | .tup xs => some (.tup (cutD xs l h)) | _ => none
def dSlQ (fe : dE) (lo hi : dP) : dE := fun ρ T k => fe ρ T fun x T1 => lo ρ T1 fun l T2 => hi ρ T2 fun h T3 => match x.cut? l h with | some d => k d T3 | none => False
theorem dSlQ_eq (fe : dE) (lo hi : dP) : dSlQ fe lo hi = dSl fe lo hi := by
  funext ρ T k
  unfold dSlQ dSl
  congr 1
  funext x T1
  congr 1
  funext l T2
  congr 1
  funext h T3
  cases x <;> rfl
theorem g_slice {lo hi : Option Expr} {fl fh : dP} {p2 : Pos} (he : PEd X e fe) (hl : POd X lo fl) (hh : POd X hi fh) : PEd X (.Subscript e (.Slice lo hi none p2) pos) (dSlQ fe fl fh) := by
  rw [dSlQ_eq]
  exact d_slice he hl hh
end
end L2.G

namespace L2.G
open PySem PySem.Spec PyProof.Rows
section
variable {i j : Int} {b c : Bool} {s u : Str} {xs ys : List D} {d : D}
theorem fAdd_int : fAdd (.int i) (.int j) = some (True, .int (i + j)) := rfl
theorem fAdd_lst : fAdd (.lst xs) (.lst ys) = some (xs.length + ys.length ≤ 1000000, .lst (xs ++ ys)) := rfl
theorem fAdd_tup : fAdd (.tup xs) (.tup ys) = some (xs.length + ys.length ≤ 1000000, .tup (xs ++ ys)) := rfl
theorem fAdd_str : fAdd (.str s) (.str u) = some (s.length + u.length ≤ 1000000, .str (s ++ u)) := rfl
theorem fSub_int : fSub (.int i) (.int j) = some (True, .int (i - j)) := rfl
theorem fSub_bl : fSub (.bl b) (.bl c) = some (True, .int (b2i b - b2i c)) := rfl
theorem fMul_int : fMul (.int i) (.int j) = some (MulOk i j, .int (i * j)) := rfl
theorem fMul_lst : fMul (.lst xs) (.int i) = some (-(2 ^ 63) ≤ i ∧ i < 2 ^ 63 ∧ xs.length * i.toNat ≤ 1000000, .lst (repD xs i.toNat)) := rfl
theorem fDiv_int : fDiv (.int i) (.int j) = some (DivOk i j, .int (i / j)) := rfl
theorem fMod_int : fMod (.int i) (.int j) = some (0 < j, .int (i % j)) := rfl
theorem fPow_int : fPow (.int i) (.int j) = some (CPow i j, .int (i ^ j.toNat)) := rfl
theorem fShl_int : fShl (.int i) (.int j) = some (CPow i j, .int (i * 2 ^ j.toNat)) := rfl
theorem fLt_int : fLt (.int i) (.int j) = some (True, .bl (decide (i < j))) := rfl
theorem fLe_int : fLe (.int i) (.int j) = some (True, .bl (decide (i ≤ j))) := rfl
theorem fGt_int : fGt (.int i) (.int j) = some (True, .bl (decide (j < i))) := rfl
theorem fGe_int : fGe (.int i) (.int j) = some (True, .bl (decide (j ≤ i))) := rfl
theorem fIn_lst : fIn d (.lst ys) = some (d.eqOk ∧ D.eqOk (.lst ys), .bl (ys.any fun z => eqD z d)) := rfl
theorem fNotIn_lst : fNotIn d (.lst ys) = some (d.eqOk ∧ D.eqOk (.lst ys), .bl (!ys.any fun z => eqD z d)) := rfl
def ixR : Option D → PD | some d => some (True, d) | none => none
theorem ixR_some : ixR (some d) = some (True, d) := rfl
theorem fIx_tup : fIx (.tup xs) (.int i) = ixR (atI xs i) := by show (match atI xs i with | some d => some (True, d) | none => none) = ixR (atI xs i); cases atI xs i <;> rfl
theorem fIx_lst : fIx (.lst xs) (.int i) = ixR (atI xs i) := by show (match atI xs i with | some d => some (True, d) | none => none) = ixR (atI xs i); cases atI xs i <;> rfl
theorem fIx_scr : fIx (.scr xs) (.int i) = ixR (atI xs i) := by show (match atI xs i with | some d => some (True, d) | none => none) = ixR (atI xs i); cases atI xs i <;> rfl
theorem fLen_tup : fLen [.tup xs] = some (True, .int xs.length) := rfl
theorem fLen_lst : fLen [.lst xs] = some (True, .int xs.length) := rfl
theorem fLen_scr : fLen [.scr xs] = some (True, .int xs.length) := rfl
theorem fI1_int {g : Int → Int} : fI1 g [.int i] = some (True, .int (g i)) := rfl
theorem fI2_int {g : Int → Int → Int} : fI2 g [.int i, .int j] = some (True, .int (g i j)) := rfl
theorem fInt_int : fInt [.int i] = some (True, .int i) := rfl
theorem fInt_bl : fInt [.bl b] = some (True, .int (if b then 1 else 0)) := rfl
theorem fDivmod_int : fDivmod [.int i, .int j] = some (DmOk i j, .tup [.int (i / j), .int (i % j)]) := rfl
def blR (f : List Bool → Bool) : Option (List Bool) → PD | some bs => some (True, .bl (f bs)) | none => none
theorem blR_some {f : List Bool → Bool} {bs : List Bool} : blR f (some bs) = some (True, .bl (f bs)) := rfl
theorem fAll_lst : fAll [.lst xs] = blR (fun bs => bs.all fun b => b) (bls? xs) := by show (match bls? xs with | some bs => some (True, D.bl (bs.all fun b => b)) | none => none) = blR (fun bs => bs.all fun b => b) (bls? xs); cases bls? xs <;> rfl
theorem fAny_lst : fAny [.lst xs] = blR (fun bs => bs.any fun b => b) (bls? xs) := by show (match bls? xs with | some bs => some (True, D.bl (bs.any fun b => b)) | none => none) = blR (fun bs => bs.any fun b => b) (bls? xs); cases bls? xs <;> rfl
def nuR : Option (List Int) → PD | some bs => some (True, .int bs.sum) | none => none
theorem nuR_some {bs : List Int} : nuR (some bs) = some (True, .int bs.sum) := rfl
theorem fSum_lst : fSum [.lst xs] = nuR (nums? xs) := by show (match nums? xs with | some bs => some (True, D.int bs.sum) | none => none) = nuR (nums? xs); cases nums? xs <;> rfl
theorem fTuple_lst : fTuple [.lst xs] = some (True, .tup xs) := rfl
theorem fTuple_tup : fTuple [.tup xs] = some (True, .tup xs) := rfl
theorem fList_lst : fList [.lst xs] = some (True, .lst xs) := rfl
theorem fList_tup : fList [.tup xs] = some (True, .lst xs) := rfl
theorem fList_scr : fList [.scr xs] = some (True, .lst xs) := rfl
theorem fRepr_int : fRepr [.int i] = some (i.natAbs.log2 < 1920, .str (toString i)) := rfl
theorem fRepr_tup : fRepr [.tup xs] = some (D.shOk (.tup xs), .str (D.py (.tup xs)).shown) := rfl
theorem fRepr_lst : fRepr [.lst xs] = some (D.shOk (.lst xs), .str (D.py (.lst xs)).shown) := rfl
theorem fRepr_bl : fRepr [.bl b] = some (True, .str (if b then "True" else "False")) := rfl
theorem fRepr_non : fRepr [.non] = some (True, .str "None") := rfl
theorem it_tup : (D.tup xs).it? = some xs := rfl
theorem it_lst : (D.lst xs).it? = some xs := rfl
theorem cutq_lst {l h : Option Int} : (D.lst xs).cut? l h = some (.lst (cutD xs l h)) := rfl
theorem cutq_scr {l h : Option Int} : (D.scr xs).cut? l h = some (.lst (cutD xs l h)) := rfl
theorem cutq_tup {l h : Option Int} : (D.tup xs).cut? l h = some (.tup (cutD xs l h)) := rfl
theorem isNon_non : D.non.isNon = true := rfl
theorem isNon_int : (D.int i).isNon = false := rfl
theorem isNon_bl : (D.bl b).isNon = false := rfl
theorem isNon_str : (D.str s).isNon = false := rfl
theorem isNon_tup : (D.tup xs).isNon = false := rfl
theorem isNon_lst : (D.lst xs).isNon = false := rfl
theorem bls_nil : bls? [] = some [] := rfl
theorem bls_cons : bls? (.bl b :: xs) = (bls? xs).map (b :: ·) := rfl
theorem nums_nil : nums? [] = some [] := rfl
theorem nums_cons : nums? (.int i :: xs) = (nums? xs).map (i :: ·) := rfl
theorem all_nil' : ([] : List Bool).all (fun b => b) = true := rfl
theorem all_cons' {bs : List Bool} : (b :: bs).all (fun b => b) = (b && bs.all fun b => b) := rfl
theorem any_nil' : ([] : List Bool).any (fun b => b) = false := rfl
theorem any_cons' {bs : List Bool} : (b :: bs).any (fun b => b) = (b || bs.any fun b => b) := rfl
end
/-- a test's answer that hangs on nothing -/
theorem ifT {A B : Prop} : (if True then A else B) = A := if_pos trivial
theorem ifF {A B : Prop} : (if False then A else B) = B := if_neg (fun h => h)

theorem ifA {A B X Y : Prop} [Decidable A] [Decidable B] : (if A then (if B then X else Y) else Y) = (if A ∧ B then X else Y) := by
  by_cases a : A <;> by_cases b : B <;> simp [a, b]
theorem ifO {A B X Y : Prop} [Decidable A] [Decidable B] : (if A then X else (if B then X else Y)) = (if A ∨ B then X else Y) := by
  by_cases a : A <;> by_cases b : B <;> simp [a, b]
/-! texts of data -/
mutual
/-- numbers below 2 ^ 1900 -/
def D.lite : D → Prop
  | .non => True | .bl _ => True | .int i => i.natAbs < 2 ^ 1900 | .str x => PyData.strOk x = true ∧ PyData.strOk (reprText x) = true ∧ (x.cps.toList.all fun c => decide (c < 16 ^ 8)) = true | .tup xs => D.liteL xs | .lst xs => D.liteL xs | .obj _ _ _ => False | .ref _ => False | .scr _ => False | .dct _ _ => False
def D.liteL : List D → Prop
  | [] => True | x :: r => x.lite ∧ D.liteL r
end
mutual
theorem lite_isPy : ∀ {d : D}, d.lite → d.isPy = true
  | .non, _ => rfl
  | .bl _, _ => rfl
  | .int _, _ => rfl
  | .str _, _ => rfl
  | .tup xs, h => by have := lite_isPyL (ds := xs) (by simpa only [D.lite] using h); simpa only [D.isPy] using this
  | .lst xs, h => by have := lite_isPyL (ds := xs) (by simpa only [D.lite] using h); simpa only [D.isPy] using this
  | .obj _ _ _, h => by simp only [D.lite] at h
  | .ref _, h => by simp only [D.lite] at h
  | .scr _, h => by simp only [D.lite] at h
  | .dct _ _, h => by simp only [D.lite] at h
theorem lite_isPyL : ∀ {ds : List D}, D.liteL ds → D.isPyL ds = true
  | [], _ => rfl
  | x :: r, h => by
    simp only [D.liteL] at h
    simp only [D.isPyL, lite_isPy h.1, lite_isPyL h.2, Bool.and_self]
end
mutual
theorem lite_lay : ∀ {d : D}, d.lite → d.py.canLay0 = true
  | .non, _ => rfl
  | .bl _, _ => rfl
  | .int _, _ => rfl
  | .str _, h => by simp only [D.lite] at h; simp only [D.py, PyData.canLay0]; exact h.1
  | .tup xs, h => by have := lite_layL (ds := xs) (by simpa only [D.lite] using h); simpa only [D.py, PyData.canLay0] using this
  | .lst xs, h => by have := lite_layL (ds := xs) (by simpa only [D.lite] using h); simpa only [D.py, PyData.canLay0] using this
  | .obj _ _ _, h => by simp only [D.lite] at h
  | .ref _, h => by simp only [D.lite] at h
  | .scr _, h => by simp only [D.lite] at h
  | .dct _ _, h => by simp only [D.lite] at h
theorem lite_layL : ∀ {ds : List D}, D.liteL ds → PyData.canLayAll0 (D.pyL ds) = true
  | [], _ => rfl
  | x :: r, h => by
    simp only [D.liteL] at h
    simp only [D.pyL, PyData.canLayAll0, lite_lay h.1, lite_layL h.2, Bool.and_self]
end
theorem log_lt' {i : Int} (h : i.natAbs < 2 ^ 1900) : i.natAbs.log2 < 1900 := by
  by_cases h0 : i.natAbs = 0
  · rw [h0]; decide
  · exact (Nat.log2_lt h0).mpr h
mutual
theorem lite_show : ∀ {d : D}, d.lite → d.py.showable = true
  | .non, _ => rfl
  | .bl _, _ => rfl
  | .int i, h => by
    simp only [D.lite] at h
    have := log_lt' h
    simp only [D.py, PyData.showable, decide_eq_true_eq]
    omega
  | .str _, h => rfl
  | .tup xs, h => by have := lite_showL (ds := xs) (by simpa only [D.lite] using h); simpa only [D.py, PyData.showable] using this
  | .lst xs, h => by have := lite_showL (ds := xs) (by simpa only [D.lite] using h); simpa only [D.py, PyData.showable] using this
  | .obj _ _ _, h => by simp only [D.lite] at h
  | .ref _, h => by simp only [D.lite] at h
  | .scr _, h => by simp only [D.lite] at h
  | .dct _ _, h => by simp only [D.lite] at h
theorem lite_showL : ∀ {ds : List D}, D.liteL ds → PyData.showableAll (D.pyL ds) = true
  | [], _ => rfl
  | x :: r, h => by
    simp only [D.liteL] at h
    simp only [D.pyL, PyData.showableAll, lite_show h.1, lite_showL h.2, Bool.and_self]
end
mutual
theorem lite_short : ∀ {d : D}, d.lite → d.py.leavesShort 2000 = true
  | .non, _ => rfl
  | .bl _, _ => rfl
  | .int i, h => by
    simp only [D.lite] at h
    have h1 := int_text_length_le (a := i) (k := 1900) (by decide) (log_lt' h)
    have e : (PyData.shown (.int i)).length = (toString i).length := by
      show (Str.ofString (toString i)).length = _
      exact PySem.ofString_length _
    simp only [D.py, PyData.leavesShort, decide_eq_true_eq]
    omega
  | .str _, h => by simp only [D.lite] at h; simp only [D.py, PyData.leavesShort]; exact h.2.2
  | .tup xs, h => by have := lite_shortL (ds := xs) (by simpa only [D.lite] using h); simpa only [D.py, PyData.leavesShort] using this
  | .lst xs, h => by have := lite_shortL (ds := xs) (by simpa only [D.lite] using h); simpa only [D.py, PyData.leavesShort] using this
  | .obj _ _ _, h => by simp only [D.lite] at h
  | .ref _, h => by simp only [D.lite] at h
  | .scr _, h => by simp only [D.lite] at h
  | .dct _ _, h => by simp only [D.lite] at h
theorem lite_shortL : ∀ {ds : List D}, D.liteL ds → PyData.leavesShortAll 2000 (D.pyL ds) = true
  | [], _ => rfl
  | x :: r, h => by
    simp only [D.liteL] at h
    simp only [D.pyL, PyData.leavesShortAll, lite_short h.1, lite_shortL h.2, Bool.and_self]
end
/-- data with small numbers has a text -/
theorem lite_shOk {d : D} (h : d.lite) (hb : d.py.bulk ≤ 4000) (hd : d.py.depth ≤ 64) : d.shOk := by
  refine ⟨⟨lite_isPy h, ?_⟩, lite_show h, ?_⟩
  · unfold SeqAt.shaped
    simp only [lite_lay h, Bool.true_and, decide_eq_true_eq]
    exact hd
  · have h1 := PyData.shown_le_bulk 2000 (by decide) d.py (lite_short h)
    have h2 : (2000 + 2) * d.py.bulk ≤ 2002 * 4000 := Nat.mul_le_mul_left _ hb
    rw [sizeLine_eq]
    omega
set_option exponentiation.threshold 3000 in
theorem Sz.lite {n : Nat} {i : Int} (h : Sz n i) (hn : n ≤ 1900) : (D.int i).lite := by
  simp only [D.lite]
  exact h.mono hn
end L2.G

namespace L2.G
open PySem PySem.Spec PyProof.Rows
/-! == of data, piece by piece -/
def eqDL (xs ys : List D) : Bool := PyData.eqvAll (D.pyL xs) (D.pyL ys)
section
variable {i j : Int} {b c : Bool} {s u : Str} {xs ys : List D} {d e : D}
theorem eqD_int : eqD (.int i) (.int j) = decide (i = j) := by unfold eqD; simp only [D.py, PyData.eqv]; by_cases h : i = j <;> simp [h]
theorem eqD_str : eqD (.str s) (.str u) = decide (s = u) := by unfold eqD; simp only [D.py, PyData.eqv]; by_cases h : s = u <;> simp [h]
theorem eqD_bl : eqD (.bl b) (.bl c) = decide (b = c) := by unfold eqD; simp only [D.py, PyData.eqv]; cases b <;> cases c <;> rfl
theorem eqD_nn : eqD .non .non = true := by unfold eqD; simp only [D.py, PyData.eqv]
theorem eqD_ni : eqD .non (.int i) = false := by unfold eqD; simp only [D.py, PyData.eqv]
theorem eqD_in : eqD (.int i) .non = false := by unfold eqD; simp only [D.py, PyData.eqv]
theorem eqD_nt : eqD .non (.tup xs) = false := by unfold eqD; simp only [D.py, PyData.eqv]
theorem eqD_tn : eqD (.tup xs) .non = false := by unfold eqD; simp only [D.py, PyData.eqv]
theorem eqD_tup : eqD (.tup xs) (.tup ys) = eqDL xs ys := by unfold eqD eqDL; simp only [D.py, PyData.eqv]
theorem eqD_lst : eqD (.lst xs) (.lst ys) = eqDL xs ys := by unfold eqD eqDL; simp only [D.py, PyData.eqv]
theorem eqDL_nil : eqDL [] [] = true := rfl
theorem eqDL_nc : eqDL [] (d :: xs) = false := rfl
theorem eqDL_cn : eqDL (d :: xs) [] = false := rfl
theorem eqDL_cons : eqDL (d :: xs) (e :: ys) = (eqD d e && eqDL xs ys) := rfl
end
theorem ok_cx {a b : Int} : (D.tup [.int a, .int b]).eqOk := ⟨rfl, rfl⟩
theorem ok_int {a : Int} : (D.int a).eqOk := ⟨rfl, rfl⟩
end L2.G

namespace L2.G
open PySem PySem.Spec PyProof.Rows
/-- lo, lo - 1, .. : n of them -/
def downL (lo : Int) : Nat → List D
  | 0 => [] | n + 1 => .int lo :: downL (lo - 1) n
def iR3 (fr : dA) : dI := fun ρ T k => fr ρ T fun as T1 => match as with
  | [.val (.int i), .val (.int j), .val (.int c)] => (c = -1 ∧ i - j ≤ 1000000 ∧ -(2 ^ 61) ≤ i ∧ i < 2 ^ 61 ∧ -(2 ^ 61) ≤ j ∧ j < 2 ^ 61) ∧ k (downL i (i - j).toNat) T1 | _ => False
section
variable {X : Cx} {tg : Expr} {fr : dA} {p pos : Pos}
end
/-- the whole root -/
def isq (n : Int) : Int := ((Float64.isqrt n.toNat : Nat) : Int)
theorem fSqrt_isq {i : Int} : fSqrt [.int i] = some (0 ≤ i ∧ i.natAbs < 2 ^ 13000, .int (isq i)) := rfl
end L2.G

namespace L2.G
open PySem PySem.Spec PyProof.Rows
section
variable {X : Cx} {a : Expr} {es : List Expr} {fa : dE} {fr : dA} {pos : Pos}
/-- x, y = a, [..] where y's list is its own -/
def sParO (i j : Nat) (fa : dE) (fr : dA) : dS := fun k ρ T => fa ρ T fun d T1 => fr ρ T1 fun as T2 => match vals? as with | some ds => ds.length ≤ 1000000 ∧ k.nx ((ρ.set i (some (.val d))).set j (some (.own ds))) T2 | none => False
/-- *e among arguments -/
theorem ArgL.app {K : PySem.W.Frag} {t : Option Addr} {F : Hp} {as : List SV} {ws : List V} (q : ArgL K t F as ws) : ∀ {xs : List D} {vs : List V}, RepL K F xs vs → ArgL K t F (xs.map SV.val ++ as) (vs ++ ws)
  | _, _, .nil => q
  | _, _, .cons r rr => .val r (ArgL.app q rr)
def aStar (fe : dE) (fr : dA) : dA := fun ρ T k => fe ρ T fun d T1 => match d.it? with | some xs => fr ρ T1 fun as T2 => k (xs.map SV.val ++ as) T2 | none => False
theorem a_star {e : Expr} {fe : dE} {p : Pos} (he : PEd X e fe) (hr : PAd X es fr) (hs : starEach (.Starred e p :: es) X.env = (true, eval e X.env) :: starEach es X.env := by rfl) : PAd X (.Starred e p :: es) (aStar fe fr) := by
  refine pa_imp (StX.pa_star he hr hs) fun σ H Q h => ?_
  obtain ⟨ρ, T, t, F, k, w, h, f⟩ := h
  refine ⟨ρ, T, t, F, _, w, h, fun v H1 F1 d T1 w1 g1 r1 h1 => ?_⟩
  cases d <;> first | exact h1.elim | skip
  · rename_i xs
    obtain ⟨a, vs, rfl, hq, hr⟩ := rep_tup r1
    exact ⟨a, vs, rfl, .inl (same_t w1.sub hq), ρ, T1, t, F1, _, w.grow g1 w1, h1, fun ys H2 F2 as T2 w2 g2 r2 h2 => f _ _ _ _ _ w2 (g1.trans g2) (r2.app (hr.mono g2.sub)) h2⟩
  · rename_i xs
    obtain ⟨a, vs, rfl, hq, hr⟩ := rep_lst r1
    exact ⟨a, vs, rfl, .inr (.of (w1.sub _ _ hq)), ρ, T1, t, F1, _, w.grow g1 w1, h1, fun ys H2 F2 as T2 w2 g2 r2 h2 => f _ _ _ _ _ w2 (g1.trans g2) (r2.app (hr.mono g2.sub)) h2⟩
end
end L2.G

namespace L2.G
open PySem PySem.Spec PyProof.Rows
set_option maxHeartbeats 1000000 in
/-- enumerate(v) with no start: its two cells -/
theorem en_new {v : Value} {o : Obj} {C : Heap → Prop} (B : Begins v o C) :
    Meets (Builtin.«enumerate.__new__» ⟨[.type "enumerate", v], []⟩) (fun _ R s => C s.heap ∧
      R (.ok (.ret (.ref (s.heap.push o).objs.size))) { s with heap := (s.heap.push o).push { cls := .type "enumerate", data := .fields #[.none, .bool false, .ref s.heap.objs.size, rawInt 0, .none, .none] } }) :=
  .of_wp fun pr wo A R s h => by
    rcases s with ⟨hp, gl, dd, tk, os⟩
    rcases h with ⟨c0, h⟩
    have sube := sub_enumerate
    have it1 : ∀ {A1 : Around} {E1 : Value → Shared → Prop} {Q1 : Value → Shared → Prop}, Q1 (.ref hp.objs.size) ⟨hp.push o, gl, dd, tk, os⟩ → wpAny (model pr wo) A1 (pyIter v) Q1 E1 ⟨hp, gl, dd, tk, os⟩ :=
      fun q => B.iter pr wo _ _ ⟨hp, gl, dd, tk, os⟩ _ c0 q
    wp_walk using it1
    refine wpAny_stack_any fun st => wpAny_pure ?_
    split
    · rename_i cc _ _ _ _ _
      cases (cc == Value.type "enumerate") <;> (wp_walk using it1; exact ⟨_, rfl, h⟩)
    · wp_walk using it1
      exact ⟨_, rfl, h⟩
theorem en_call {prog : Program} {w : World} {A : Around} {E : Value → Shared → Prop} {s : Shared} {v : Value} {o : Obj} {C : Heap → Prop} {Q : Value → Shared → Prop} (B : Begins v o C) (h1 : C s.heap)
    (h : ∀ h', IsEnum h' (s.heap.objs.size + 1) s.heap.objs.size 0 .none → h'.get? s.heap.objs.size = some o → (∀ b o, s.heap.get? b = some o → h'.get? b = some o) → Q (.ref (s.heap.objs.size + 1)) { s with heap := h' }) :
    wpAny (model prog w) A (call (.type "enumerate") [v]) Q E s := by
  refine callType_new F.called_enumerate (by decide) (F.typeCall_enumerate_1 _) (F.newCall_enumerate_1 _) (fun ob => F.args_object_init_2 ob _) F.entry_enumerate_new (en_new B) ⟨h1, ?_⟩
  have z : (s.heap.push o).objs.size = s.heap.objs.size + 1 := Heap.size_push ..
  show _ ∧ _
  rw [z]
  have e0 := Heap.get?_push_size (s.heap.push o) (o := { cls := .type "enumerate", data := .fields #[.none, .bool false, .ref s.heap.objs.size, rawInt 0, .none, .none] }) rfl
  rw [z] at e0
  exact ⟨⟨_, e0, rfl⟩, h _ e0 (Heap.get?_push_of_some _ (Heap.get?_push_size _ B.free)) fun b ob x => Heap.get?_push_of_some _ (Heap.get?_push_of_some _ x)⟩
theorem tup_ne_it {h : Heap} {a it t : Addr} {i : Nat} {items : Array Value} (p : h.IsTuple a items) (q : h.IsTupleIter it t i) : a ≠ it := fun z => by
  obtain ⟨ob, h1, c1, _⟩ := p
  obtain ⟨ob2, h2, c2, _⟩ := q
  subst z
  rw [h1] at h2
  cases h2
  rw [c1] at c2
  exact absurd c2 (by decide)
theorem tup_ne_en {h : Heap} {a e t : Addr} {i : Int} {old : Value} {items : Array Value} (p : h.IsTuple a items) (q : IsEnum h e t i old) : a ≠ e := fun z => by
  obtain ⟨ob, h1, c1, _⟩ := p
  subst z
  have h2 : h.get? a = some _ := q
  rw [h1] at h2
  cases h2
  exact absurd (show Value.type "enumerate" = Value.type "tuple" from c1) (by decide)
/-- the tuple at a as it stands at each turn, each item in a new pair -/
def Itf (K : PySem.W.Frag) (a : Addr) : It where
  go := fun i H => ∃ (ys : List V) (y : V), SqT K H a ys ∧ ys[i]? = some y
  yld := fun i H v H' => ∃ T y, v = .ref T ∧ H T = none ∧ H' = upd H T (.tup [.int (i : Nat), y]) ∧ ∀ ys, SqT K H a ys → ys[i]? = some y
  stop := fun i H => ∃ ys : List V, SqT K H a ys ∧ ys.length = i
theorem turn_enT {P : Program} {w : World} {K : PySem.W.Frag} {elts : List Expr} {kk : Nat} {tpos : Pos} (a e it : Addr) :
    Turn P w K (.Tuple elts kk tpos) (Itf K a) [e, it] e (fun i h => (∃ old, IsEnum h e it ((i : Nat) : Int) old) ∧ h.IsTupleIter it a i ∧ e ≠ it) where
  mem := by simp
  obj := fun i h st b hb => by
    obtain ⟨⟨old, he⟩, ⟨ob, ho, hc, hd⟩, _⟩ := st
    have eb : b = e ∨ b = it := by simpa using hb
    rcases eb with z | z
    · rw [z]; exact ⟨_, he, fun v q => nomatch q⟩
    · rw [z]; exact ⟨ob, ho, fun v q => by rw [hd] at q; cases q⟩
  keep := fun i h h1 st k => let ⟨⟨old, he⟩, hi, hne⟩ := st; ⟨⟨old, k e (by simp) _ he⟩, hi.at fun ob q => k it (by simp) ob q, hne⟩
  item := by
    intro X hP hw hK hc i pins s σ H E I hf st hg
    subst hP hw hK
    obtain ⟨⟨old, he⟩, hit, hne⟩ := st
    obtain ⟨ys, y, hq, hy⟩ := hg
    obtain ⟨vals, rv, p, hz⟩ := I.tuple hq
    obtain ⟨u, hu, ru⟩ := rv.get hy
    have hel : e < s.heap.objs.size := Heap.lt_size he
    have hil : it < s.heap.objs.size := by obtain ⟨_, q, _⟩ := hit; exact Heap.lt_size q
    have p0 : s.heap.IsTuple a vals.toArray := p
    have ha : ∀ b ∈ [e, it], a ≠ b := fun b hb => by
      have eb : b = e ∨ b = it := by simpa using hb
      rcases eb with z | z
      · rw [z]; exact tup_ne_en p0 he
      · rw [z]; exact tup_ne_it p0 hit
    have hlt : i < vals.toArray.size := by
      have := rv.length
      have := (List.getElem?_eq_some_iff.mp hy).1
      rw [List.size_toArray]
      omega
    refine wpAny_pyNext_enum_itemD (Draws.tuple (A := X.A.in1) (I.ok.hd hc) it a (ha it (by simp)) vals.toArray) he ⟨hit, p⟩ hlt hne (by simp only [List.mem_cons, List.not_mem_nil, or_false, not_or]; exact ⟨hne, fun z => ha e (by simp) z.symm⟩) fun x h1 tk px ho st1 hT hsz hk => ?_
    obtain ⟨hit1, p1⟩ := st1
    have ex : x = u := by
      have q1 : vals[i]? = some x := by simpa using px
      rw [hu] at q1
      exact (Option.some.inj q1).symm
    subst ex
    refine ⟨_, rfl, wpAny_letOwnedTupleGo_enum (s := { s with heap := h1, toks := tk + 1 }) ho fun h2 he2 sb => ?_⟩
    have hT2 : h2.get? s.heap.objs.size = some { cls := .type "tuple", data := .seq #[.int i tk, x] } := (sb.2 _ (Nat.ne_of_gt hel)).trans hT
    have fresh : ObjOk X.prog X.w (upd H s.heap.objs.size (.tup [.int (i : Nat), y])) h2 s.heap.objs.size (.tup [.int (i : Nat), y]) :=
      ⟨by show 2 ≤ sizeLine; decide, [.int i tk, x], .cons ⟨_, rfl⟩ (.cons ru .nil), ⟨_, hT2, rfl, _, rfl⟩⟩
    have J1 : Inv X pins σ (upd H s.heap.objs.size (.tup [.int (i : Nat), y])) { s with heap := h2, toks := tk + 1 } :=
      I.turnedNew (ch := [e, it]) (fun b ob hb q => (sb.2 b (fun z => hb (by simp [z]))).trans (hk b ob (fun z => hb (by simp [z])) (fun z => hb (by simp [z])) q)) hf (Nat.le_refl _) fresh
    refine ⟨.ref s.heap.objs.size, _, J1, rfl, ⟨_, y, rfl, I.hok.fresh (Nat.le_refl _), rfl, fun zs hzs => by rw [I.tuple_inj hzs hq]; exact hy⟩, ⟨⟨x, ?_⟩, hit1.at fun ob q => (sb.2 it (Ne.symm hne)).trans q, hne⟩, fun b hb => ?_⟩
    · have e1 : ((i + 1 : Nat) : Int) = (i : Int) + 1 := by omega
      rw [e1]; exact he2
    · have bl : b < s.heap.objs.size := by
        have eb : b = e ∨ b = it := by simpa using hb
        rcases eb with z | z
        · rw [z]; exact hel
        · rw [z]; exact hil
      rw [upd_ne (Nat.ne_of_lt bl)]
      exact (hf b hb).1
  done := by
    intro X hP hw hK hc i pins s σ H E I hf st hg
    subst hP hw hK
    obtain ⟨⟨old, he⟩, hit, hne⟩ := st
    obtain ⟨ys, hq, hy⟩ := hg
    obtain ⟨vals, rv, p, hz⟩ := I.tuple hq
    have ha : a ≠ it := tup_ne_it (show s.heap.IsTuple a vals.toArray from p) hit
    have en : i = vals.toArray.size := by
      have := rv.length
      rw [List.size_toArray]
      omega
    obtain ⟨f0, f1, f2, f3, f4, f5⟩ := hf it (by simp)
    refine wpAny_pyNext_enum_endD (Draws.tuple (A := X.A.in1) (I.ok.hd hc) it a ha vals.toArray) he ⟨en ▸ hit, p⟩ fun h1 eb => ⟨rfl, I.turned (t' := s.toks) (fun b ob hb q => eb b ob hb q) f0 f1 f3 f4 f5⟩
  self := fun A i s Q E st h => let ⟨⟨_, he⟩, _⟩ := st; wpAny_pyIter_enum he h
/-! enumerate(e) over a list or a tuple -/
section
variable {X : Cx} {e : Expr} {fe : dE} {p pos tpos : Pos} {elts : List Expr} {kk : Nat}
def enD : Int → List D → List D
  | _, [] => [] | i, d :: r => .tup [.int i, d] :: enD (i + 1) r
theorem enD_len : ∀ (xs : List D) (i : Int), (enD i xs).length = xs.length
  | [], _ => rfl
  | _ :: r, i => by simp [enD, enD_len r]
theorem enD_get : ∀ (xs : List D) (i : Int) (j : Nat) (d : D), xs[j]? = some d → (enD i xs)[j]? = some (.tup [.int (i + j), d])
  | [], _, _, _, h => by simp at h
  | x :: r, i, 0, d, h => by simp at h; subst h; simp [enD]
  | x :: r, i, j + 1, d, h => by
    rw [enD, List.getElem?_cons_succ, enD_get r (i + 1) j d (by simpa using h)]
    congr 3
    simp only [D.int.injEq]
    omega
theorem src_enL {K : PySem.W.Frag} {t : Option Addr} {F1 : Hp} {a : Addr} {xs : List D} {vs : List V} (h : F1 a = some (.lst vs)) (r : RepL K F1 xs vs) : Src K t (Ite K a) F1 (enD 0 xs) where
  go := fun i F H s1 s2 hi => by
    rw [enD_len, r.len] at hi
    exact ⟨vs, vs[i], .of (s2 _ _ (s1 _ _ h)), by simp [hi]⟩
  yl := fun i T F H x H' s1 w hi y => by
    obtain ⟨tt, u, rfl, hn, rfl, y⟩ := y
    obtain ⟨d, hd, rd⟩ := r.getV (y vs (.of (w.sub _ _ (s1 _ _ h))))
    have sm := same_upd (o := .tup [.int (i : Nat), u]) (w.sub.free hn)
    have e := enD_get xs 0 i d hd
    rw [Int.zero_add] at e
    exact ⟨upd F tt (.tup [.int (i : Nat), u]), .tup [.int (i : Nat), d], e, .tup (.of upd_same) ((RepL.cons (.int _) (.cons (rd.mono s1) .nil)).mono sm), grow_new w.sub hn, wt_new w hn⟩
  st := fun F H s1 s2 => ⟨vs, .of (s2 _ _ (s1 _ _ h)), by rw [enD_len, r.len]; exact Nat.le_refl _⟩
theorem src_enT {K : PySem.W.Frag} {t : Option Addr} {F1 : Hp} {a : Addr} {xs : List D} {vs : List V} (h : SqT K F1 a vs) (r : RepL K F1 xs vs) : Src K t (Itf K a) F1 (enD 0 xs) where
  go := fun i F H s1 s2 hi => by
    rw [enD_len, r.len] at hi
    exact ⟨vs, vs[i], same_t (s1.trans s2) h, by simp [hi]⟩
  yl := fun i T F H x H' s1 w hi y => by
    obtain ⟨tt, u, rfl, hn, rfl, y⟩ := y
    obtain ⟨d, hd, rd⟩ := r.getV (y vs (same_t (s1.trans w.sub) h))
    have sm := same_upd (o := .tup [.int (i : Nat), u]) (w.sub.free hn)
    have e := enD_get xs 0 i d hd
    rw [Int.zero_add] at e
    exact ⟨upd F tt (.tup [.int (i : Nat), u]), .tup [.int (i : Nat), d], e, .tup (.of upd_same) ((RepL.cons (.int _) (.cons (rd.mono s1) .nil)).mono sm), grow_new w.sub hn, wt_new w hn⟩
  st := fun F H s1 s2 => ⟨vs, same_t (s1.trans s2) h, by rw [enD_len, r.len]⟩
def iEnumA (K : PySem.W.Frag) (ta : TA) : TI := fun σ H R => ta σ H fun vs H1 => ∃ a xs, vs = [.ref a] ∧ ((SqL K H1 a xs ∧ R (Ite K a) H1) ∨ (SqT K H1 a xs ∧ R (Itf K a) H1))
theorem pi_enumA {ta : TA} (hg : Gl X "enumerate") (hm : X.mg "enumerate" = none) (ha : PA X [e] ta) (hs : starEach [e] X.env = [(false, eval e X.env)] := by rfl) :
    PI X (.Tuple elts kk tpos) (.Call (.Name "enumerate" p) [e] [] pos) (iEnumA X.K ta) := by
  refine ⟨fun pins s σ H R I h => ?_⟩
  refine Call_ (ld_blt I hg hm boot_enumerate (PyProof.Rows.callWith_type1 (thn (ha.run pos pins s σ H _ I h) fun us s1 ⟨vs, H1, I1, r1, q1⟩ => ?_) hs rfl))
  obtain ⟨a, xs, ex, q⟩ := q1
  subst ex
  cases r1 with
  | cons r rr =>
    cases rr
    cases r
    have fp : ∀ b ∈ [s1.heap.objs.size + 1, s1.heap.objs.size], FpOk X pins H1 b := fun b hb => by
      have e' : b = s1.heap.objs.size + 1 ∨ b = s1.heap.objs.size := by simpa using hb
      have hle : s1.heap.objs.size ≤ b := by
        rcases e' with z | z
        · rw [z]; exact Nat.le_add_right _ _
        · rw [z]; exact Nat.le_refl _
      exact I1.fpOk hle (I1.hok.fresh hle)
    rcases q with ⟨hq, q⟩ | ⟨hq, q⟩
    · obtain ⟨its, rv, p', hz⟩ := I1.list hq
      refine call_enumerate_list p'.isList fun h' he hit hsz hk => wpAny_pyIter_enum he ?_
      have I2 : Inv X pins σ H1 { s1 with heap := h' } := I1.kept (t' := s1.toks) hk
      exact ⟨s1.heap.objs.size + 1, [s1.heap.objs.size + 1, s1.heap.objs.size], _, _, H1, rfl, I2, turn_enum a (s1.heap.objs.size + 1) s1.heap.objs.size, ⟨⟨.none, he⟩, hit, Nat.succ_ne_self _⟩, fp, q⟩
    · obtain ⟨its, rv, p', hz⟩ := I1.tuple hq
      refine en_call (begins_tuple a its.toArray) (show s1.heap.IsTuple a its.toArray from p') fun h' he hit hk => wpAny_pyIter_enum he ?_
      have I2 : Inv X pins σ H1 { s1 with heap := h' } := I1.kept (t' := s1.toks) hk
      exact ⟨s1.heap.objs.size + 1, [s1.heap.objs.size + 1, s1.heap.objs.size], _, _, H1, rfl, I2, turn_enT a (s1.heap.objs.size + 1) s1.heap.objs.size, ⟨⟨.none, he⟩, ⟨_, hit, rfl, rfl⟩, Nat.succ_ne_self _⟩, fp, q⟩
def iEn (fe : dE) : dI := fun ρ T k => fe ρ T fun d T1 => match d.it? with | some xs => xs.length ≤ 1000000 ∧ k (enD 0 xs) T1 | none => False
theorem i_enum (hm : X.mg "enumerate" = none) (he : PEd X e fe) (hg : Gl X "enumerate" := by rfl) (hs1 : starEach [e] X.env = (false, eval e X.env) :: starEach [] X.env := by rfl) (hs : starEach [e] X.env = [(false, eval e X.env)] := by rfl) :
    PId X (.Tuple elts kk tpos) (.Call (.Name "enumerate" p) [e] [] pos) (iEn fe) := by
  refine pi_imp (pi_enumA hg hm (pa_cons he pa_nil hs1) hs) fun σ H R h => ?_
  obtain ⟨ρ, T, t, F, k, w, h, f⟩ := h
  refine ⟨ρ, T, t, F, _, w, h, fun v H1 F1 d T1 w1 g1 r1 h1 => ?_⟩
  cases d <;> first | exact h1.elim | skip
  · obtain ⟨a, vs, rfl, hq, hr⟩ := rep_tup r1
    exact ⟨a, vs, rfl, .inr ⟨same_t w1.sub hq, f _ _ _ _ _ w1 g1 (src_enT hq hr) (by rw [enD_len]; exact h1.1) h1.2⟩⟩
  · obtain ⟨a, vs, rfl, hq, hr⟩ := rep_lst r1
    exact ⟨a, vs, rfl, .inl ⟨.of (w1.sub _ _ hq), f _ _ _ _ _ w1 g1 (src_enL hq hr) (by rw [enD_len]; exact h1.1) h1.2⟩⟩
end
end L2.G

namespace L2.G
open PySem PySem.Spec PyProof.Rows
/-! in, not in: over lists and tuples -/
def rInTD (K : PySem.W.Frag) : R2 := fun x y H Q => ∃ d ds, Dp K H x d ∧ Dp K H y (.tuple ds) ∧ SeqAt.shaped d = true ∧ SeqAt.shaped (.tuple ds) = true ∧ Q (.bl (ds.any fun z => PyData.eqv z d)) H
section
variable {X : Cx}
theorem op_inTD (hu : X.A.units + 65 < cLine) : OpR X (compareOp .In) (rInTD X.K) := by
  intro pins s σ H x y v u Q I rx ry h
  obtain ⟨d, ds, hd, he, sd, se, q⟩ := h
  obtain ⟨as, r1⟩ := Dp.reads I d x v hd rx
  obtain ⟨bs, r2⟩ := Dp.reads I (.tuple ds) y u he ry
  exact SeqAt.in_tuple_reads r2 r1 (SeqAt.canLay_of_shaped se) (SeqAt.canLay_of_shaped sd) (room_in_shaped sd hu) ⟨.bl _, H, I, rfl, q⟩
end
def fInS (x y : D) : PD := match y with | .lst ys => some (x.eqOk ∧ D.eqOk (.lst ys), .bl (ys.any fun z => eqD z x)) | .tup ys => some (x.eqOk ∧ D.eqOk (.tup ys), .bl (ys.any fun z => eqD z x)) | _ => none
def fNotInS (x y : D) : PD := match y with | .lst ys => some (x.eqOk ∧ D.eqOk (.lst ys), .bl (!ys.any fun z => eqD z x)) | .tup ys => some (x.eqOk ∧ D.eqOk (.tup ys), .bl (!ys.any fun z => eqD z x)) | _ => none
theorem fInS_lst {x : D} {ys : List D} : fInS x (.lst ys) = some (x.eqOk ∧ D.eqOk (.lst ys), .bl (ys.any fun z => eqD z x)) := rfl
theorem fInS_tup {x : D} {ys : List D} : fInS x (.tup ys) = some (x.eqOk ∧ D.eqOk (.tup ys), .bl (ys.any fun z => eqD z x)) := rfl
theorem fNotInS_lst {x : D} {ys : List D} : fNotInS x (.lst ys) = some (x.eqOk ∧ D.eqOk (.lst ys), .bl (!ys.any fun z => eqD z x)) := rfl
theorem fNotInS_tup {x : D} {ys : List D} : fNotInS x (.tup ys) = some (x.eqOk ∧ D.eqOk (.tup ys), .bl (!ys.any fun z => eqD z x)) := rfl
theorem fInS_ok {K : PySem.W.Frag} : OpS K (fun x y H Q => rInD K x y H Q ∨ rInTD K x y H Q) (oF fInS) := by
  intro t F H T x y v w k Q wt r1 r2 q f
  cases y <;> first | exact q.elim | skip
  · obtain ⟨⟨q1, q2⟩, q3⟩ := q
    refine .inr ⟨x.py, D.pyL _, r1.dp wt.sub q1.1, r2.dp wt.sub q2.1, q1.2, q2.2, ?_⟩
    rw [pyL_any]
    exact f.val wt (.bl _) q3
  · obtain ⟨⟨q1, q2⟩, q3⟩ := q
    refine .inl ⟨x.py, D.pyL _, r1.dp wt.sub q1.1, r2.dp wt.sub q2.1, q1.2, q2.2, ?_⟩
    rw [pyL_any]
    exact f.val wt (.bl _) q3
section
variable {X : Cx} {a b e : Expr} {fa fb fe : dE} {fr : dA} {p pos : Pos} {n : Nat} {es : List Expr} {tg : Expr}
theorem d_finS (hr : Room n X.A) (ha : PEd X a fa) (hb : PEd X b fb) (hm : behindInMarks .In b = false := by rfl) : PEd X (.Compare a [.In] [b] pos) (dOp (oF fInS) fa fb) := d_cmp ((op_inD (by have := room66 hr; omega)).or (op_inTD (by have := room66 hr; omega))) fInS_ok ha hb hm
theorem t_finS (hr : Room n X.A) (ha : PEd X a fa) (hb : PEd X b fb) (hm : behindInMarks .In b = false := by rfl) : PTd X (.Compare a [.In] [b] pos) (dTst (dOp (oF fInS) fa fb)) := d_tcmp ((op_inD (by have := room66 hr; omega)).or (op_inTD (by have := room66 hr; omega))) fInS_ok ha hb hm
end

/-! own lists read for a while -/
mutual
def D.noL : D → Prop
  | .non => True | .bl _ => True | .int _ => True | .str _ => True | .tup xs => D.noLL xs | .lst _ => False | .obj _ _ _ => False | .ref _ => True | .scr _ => False | .dct _ _ => False
def D.noLL : List D → Prop
  | [] => True | x :: r => x.noL ∧ D.noLL r
end
def cutH (F : Hp) (l : Addr) : Hp := fun b => if b = l then none else F b
theorem cut_ne {F : Hp} {l b : Addr} (h : b ≠ l) : cutH F l b = F b := if_neg h
theorem cut_self {F : Hp} {l : Addr} : cutH F l l = none := if_pos rfl
theorem cut_t {K : PySem.W.Frag} {F : Hp} {l a : Addr} {lv xs : List V} (hl : F l = some (.lst lv)) (h : SqT K F a xs) : SqT K (cutH F l) a xs := by
  rcases h with (h | ⟨o, h⟩) | h
  · left; left
    rw [cut_ne (fun z => by rw [z, hl] at h; cases h)]; exact h
  · left; right
    exact ⟨o, by rw [cut_ne (fun z => by rw [z, hl] at h; cases h)]; exact h⟩
  · right; exact h
mutual
theorem noL_drop {K : PySem.W.Frag} {F : Hp} {l : Addr} {lv : List V} (hl : F l = some (.lst lv)) : ∀ {d : D} {v : V}, Rep K F d v → d.noL → Rep K (cutH F l) d v
  | _, _, .non, _ => .non
  | _, _, .bl b, _ => .bl b
  | _, _, .int i, _ => .int i
  | _, _, .str x, _ => .str x
  | _, _, .tup h q, n => .tup (cut_t hl h) (noLL_drop hl q (by simpa only [D.noL] using n))
  | _, _, .lst _ _, n => by simp only [D.noL] at n
  | _, _, .obj _ _ _, n => by simp only [D.noL] at n
  | _, _, .ref a h, _ => .ref a h
  | _, _, .scr _ _, n => by simp only [D.noL] at n
  | _, _, .dct _ _ _, n => by simp only [D.noL] at n
theorem noLL_drop {K : PySem.W.Frag} {F : Hp} {l : Addr} {lv : List V} (hl : F l = some (.lst lv)) : ∀ {ds : List D} {vs : List V}, RepL K F ds vs → D.noLL ds → RepL K (cutH F l) ds vs
  | _, _, .nil, _ => .nil
  | _, _, .cons h q, n => .cons (noL_drop hl h (by simp only [D.noLL] at n; exact n.1)) (noLL_drop hl q (by simp only [D.noLL] at n; exact n.2))
end
theorem Wd.frz {K : PySem.W.Frag} {ρ : En} {T : Tk} {t : Option Addr} {σ : L2.St} {F H : Hp} (w : Wd K ρ T t σ F H) {i : Nat} {xs : List D} (e : ρ[i]? = some (some (.own xs))) :
    ∃ l vs, F l = none ∧ Wd K (ρ.set i (some (.val (.lst xs)))) T t σ (upd F l (.lst vs)) H := by
  obtain ⟨v, hv, l, vs, rfl, hF, hH, r, nt⟩ := w.slot i _ e
  have sm : Same F (upd F l (.lst vs)) := same_upd hF
  have sub : Same (upd F l (.lst vs)) H := fun b u q => by
    by_cases hb : b = l
    · subst hb; rw [upd_same] at q; cases q; exact hH
    · rw [upd_ne hb] at q; exact w.wt.sub b u q
  have wt : Wt K T t (upd F l (.lst vs)) H := ⟨sub, fun a ea => by
    obtain ⟨n, us, hu, ru⟩ := w.wt.tank a ea
    have ne : a ≠ l := fun z => nt (by rw [ea, z])
    exact ⟨by rw [upd_ne ne]; exact n, us, hu, ru.mono sm⟩⟩
  refine ⟨l, vs, hF, wt, by simpa using w.len, fun j s ej => ?_, fun j j' ys zs m e1 e2 e3 e4 => ?_⟩
  · rcases getSet ej with ⟨rfl, _, e'⟩ | ⟨ne, e'⟩
    · cases e'
      exact ⟨.ref l, hv, .lst upd_same (r.mono sm)⟩
    · obtain ⟨u, h1, h2⟩ := w.slot j s e'
      refine ⟨u, h1, ?_⟩
      cases s with
      | val d => exact Rep.mono sm h2
      | tank => exact h2
      | exc _ _ => exact ⟨h2.1, fun dd fl x q => let ⟨n, u, f1, r1⟩ := h2.2 dd fl x q; ⟨n, u, f1, r1.mono sm⟩⟩
      | own ys =>
        obtain ⟨m, us, rfl, f1, f2, f3, f4⟩ := h2
        have nm : m ≠ l := fun z => ne (w.apart i j xs ys l e e' hv (z ▸ h1))
        exact ⟨m, us, rfl, by rw [upd_ne nm]; exact f1, f2, f3.mono sm, f4⟩
  · rcases getSet e1 with ⟨_, _, z⟩ | ⟨n1, e1⟩
    · cases z
    · rcases getSet e2 with ⟨_, _, z⟩ | ⟨n2, e2⟩
      · cases z
      · exact w.apart j j' ys zs m e1 e2 e3 e4
theorem wt_cut {K : PySem.W.Frag} {T : Tk} {t : Option Addr} {F H : Hp} {l : Addr} {lv : List V} (hl : F l = some (.lst lv)) (w : Wt K T t F H) (n : D.noLL T) : Wt K T t (cutH F l) H :=
  ⟨fun b u q => by
    by_cases hb : b = l
    · rw [hb, cut_self] at q; cases q
    · rw [cut_ne hb] at q; exact w.sub b u q, fun a ea => by
    obtain ⟨n1, us, hu, ru⟩ := w.tank a ea
    refine ⟨?_, us, hu, noLL_drop hl ru n⟩
    by_cases hb : a = l
    · rw [hb, cut_self]
    · rw [cut_ne hb]; exact n1⟩
theorem grow_cut {t : Option Addr} {F H F1 H1 : Hp} {l : Addr} {lv : List V} (hF : F l = none) (g : Grow t (upd F l (.lst lv)) H F1 H1) : Grow t F H (cutH F1 l) H1 :=
  ⟨fun b u q => by
    have ne : b ≠ l := fun z => by rw [z, hF] at q; cases q
    rw [cut_ne ne]
    exact g.sub b u (by rw [upd_ne ne]; exact q), g.keep, fun a o h n => by
    by_cases hb : a = l
    · rw [hb, cut_self]
    · rw [cut_ne hb]; exact g.new a o h (by rw [upd_ne hb]; exact n), g.there⟩
def dView (i : Nat) (fe : dE) : dE := fun ρ T k => match ρ[i]? with | some (some (.own xs)) => fe (ρ.set i (some (.val (.lst xs)))) T fun d T1 => d.noL ∧ D.noLL T1 ∧ k d T1 | _ => fe ρ T k
def dViewT (i : Nat) (tc : dT) : dT := fun ρ T k => match ρ[i]? with | some (some (.own xs)) => tc (ρ.set i (some (.val (.lst xs)))) T fun d T1 => D.noLL T1 ∧ k d T1 | _ => tc ρ T k
section
variable {X : Cx} {e : Expr} {es : List Expr} {fe : dE} {fr : dA} {p pos : Pos} {st : Stmt} {f : dS}
theorem t_view (i : Nat) {tc : dT} (he : PTd X e tc) : PTd X e (dViewT i tc) := by
  refine pt_imp he fun σ H Q h => ?_
  obtain ⟨ρ, T, t, F, k, w, h, f⟩ := h
  unfold dViewT at h
  split at h
  · rename_i xs e0
    obtain ⟨l, vs, hF, w'⟩ := w.frz e0
    refine ⟨_, T, t, _, _, w', h, fun b H1 F1 T1 w1 g1 h1 => ?_⟩
    obtain ⟨n2, h1⟩ := h1
    have hl : F1 l = some (.lst vs) := g1.sub _ _ upd_same
    exact f b H1 (cutH F1 l) T1 (wt_cut hl w1 n2) (grow_cut hF g1) h1
  · exact ⟨ρ, T, t, F, k, w, h, f⟩
/-- it will not be changed any more, if it is own -/
def sFrq (i : Nat) (f : dS) : dS := fun k ρ T => match ρ[i]? with | some (some (.own xs)) => f k (ρ.set i (some (.val (.lst xs)))) T | _ => f k ρ T
theorem s_frq (i : Nat) (h : PSd X st f) : PSd X st (sFrq i f) := by
  refine ps_imp h fun E σ H h => ?_
  obtain ⟨ρ, T, t, F0, H0, F, k, w, h, fe⟩ := h
  unfold sFrq at h
  split at h
  · rename_i xs e
    obtain ⟨F', sm, w'⟩ := w.frz e
    exact ⟨_, T, t, F0, H0, F', k, w', h, fe.to sm⟩
  · exact ⟨ρ, T, t, F0, H0, F, k, w, h, fe⟩
/-- x[e] = .. in an own list -/
def gOs (i : Nat) (fe : dE) : dG := fun d ρ T k => match ρ[i]? with | some (some (.own xs)) => fe ρ T fun j T1 => (match j with | .int j => (match ixN xs.length j with | some m => k (ρ.set i (some (.own (xs.set m d)))) T1 | none => False) | _ => False) | _ => False
theorem g_oset (i : Nat) {x : Str} {p1 : Pos} (he : PEd X e fe) (hN : X.N[i]? = some x := by rfl) (hv : Vis X.env.scope x := by first | exact Or.inl rfl | exact Or.inr (Or.inl rfl) | exact Or.inr (Or.inr rfl))
    (hd : (x == ("__debug__" : Str)) = false := by decide) (hc : (x == ("__classdict__" : Str)) = false := by decide) (ha : ∀ v, assign (.Subscript (.Name x p1) e pos) X.env v = (do
      let ov ← holding [v] (eval (.Name x p1) X.env); let iv ← holding [v, ov] (eval e X.env); standAt pos; holding [v, ov, iv] (setItem ov iv v); release [v, ov, iv] []) := by intro _; rfl) : PGd X (.Subscript (.Name x p1) e pos) (gOs i fe) := by
  refine pg_imp (pg_sub (pe_var hN hv hd hc) he set_list ha) fun v σ H Q h => ?_
  obtain ⟨ρ, T, t, F0, H0, F, d, k, w, r, h, f⟩ := h
  unfold gOs at h
  split at h
  · rename_i xs e0
    obtain ⟨v0, hσ, l, vs, rfl, hF, hH, rr, nt⟩ := w.w.slot i _ e0
    refine ⟨_, hσ, ρ, T, t, F, _, w.w, h, fun u H1 F1 j T1 w1 g1 r1 h1 => ?_⟩
    split at h1
    · split at h1
      · rename_i e1
        cases r1
        have hH1 := g1.keep _ _ hH nt
        rw [rr.len] at e1
        exact ⟨l, vs, _, _, rfl, rfl, hH1, e1, f _ _ _ _ _ ((w.grow g1 w1).chg e0 hσ ((rr.mono g1.sub).set (r.mono g1.sub) _)) g1.sub h1⟩
      · exact h1.elim
    · exact h1.elim
  · exact h.elim

/-! a def that hands back a list of its own -/
def OkN (P : Program) (w : World) (K : PySem.W.Frag) (mg : Str → Option Value) (base : Heap) (n : Nat) (x : Str) (ps : List Str) (sem : Sem) : Prop :=
  ∃ f fd, mg x = some (.ref f) ∧ PySem.W.keepIn K (.ref f) = true ∧ Binds K fd ps [] ∧ (∀ (s : Shared) (ws : List Value), K.In s.heap → ws.length = ps.length → BindsTo s fd ⟨[], ps.zip ws⟩ (ps.zip ws)) ∧ GFn P w K mg base CX0 n f fd ps (spO K ps.length sem) ∧ ∃ oc od osl, K.lookup f = some ⟨oc, od, .func fd, osl⟩
theorem fin_own {K : PySem.W.Frag} {t : Option Addr} {F H : Hp} {T : Tk} {k : KD} {Q : VK} (w : Wt K T t F H) (f : Fin K t F H k Q) : FinO K t F H k Q := by
  intro l lv H' F' xs T' w' g' hl hF' hH' r' q
  have nt : ∀ a, t = some a → a ≠ l := fun a ea z => by
    obtain ⟨_, us, hu, _⟩ := w.tank a ea
    rw [z, hl] at hu
    cases hu
  have sm : Same F' (upd F' l (.lst lv)) := same_upd hF'
  refine f (.ref l) H' (upd F' l (.lst lv)) (.lst xs) T' ⟨fun b u e => ?_, fun a ea => ?_⟩ ⟨g'.sub.trans sm, g'.keep, fun a o h n => ?_, g'.there⟩ (.lst upd_same (r'.mono sm)) q
  · by_cases hb : b = l
    · subst hb; rw [upd_same] at e; cases e; exact hH'
    · rw [upd_ne hb] at e; exact w'.sub b u e
  · obtain ⟨n1, us, hu, ru⟩ := w'.tank a ea
    exact ⟨by rw [upd_ne (nt a ea)]; exact n1, us, hu, ru.mono sm⟩
  · have ne : a ≠ l := fun z => by rw [z, hl] at h; cases h
    rw [upd_ne ne]
    exact g'.new a o h n
theorem OkN.ok {P : Program} {w : World} {K : PySem.W.Frag} {mg : Str → Option Value} {base : Heap} {n : Nat} {x : Str} {ps : List Str} {sem : Sem} (h : OkN P w K mg base n x ps sem) : Ok P w K mg base n x ps sem :=
  let ⟨f, fd, h1, h2, h3, h4, h5, h6⟩ := h
  ⟨f, fd, h1, h2, h3, h4, h5.imp (fun vs H Q E ⟨q1, F, t, T, as, k, a, b, c, d⟩ => ⟨q1, F, t, T, as, k, a, b, c, fin_own b d⟩), h6⟩
theorem OkN.mono {P : Program} {w : World} {K : PySem.W.Frag} {mg : Str → Option Value} {base : Heap} {m n : Nat} {x : Str} {ps : List Str} {sem : Sem} (h : OkN P w K mg base m x ps sem) (l : m ≤ n) : OkN P w K mg base n x ps sem :=
  let ⟨f, fd, h1, h2, h3, h4, h5, h6⟩ := h; ⟨f, fd, h1, h2, h3, h4, h5.mono l, h6⟩
variable {y : Str} {n m : Nat} {ps qs : List Str} {so : Sem} {q pos2 : Pos} {a b : Expr} {fa fb : dE}
/-- x = f(..), f's list x's own -/
def sOwnC (i m : Nat) (so : Sem) (fr : dA) : dS := fun k ρ T => fr ρ T fun as T1 => as.length = m ∧ so as T1 fun d T2 => match d with | .lst xs => k.nx (ρ.set i (some (.own xs))) T2 | _ => False
/-- x, y = a, f(..) with y's list its own -/
def sParC (i j m : Nat) (so : Sem) (fa : dE) (fr : dA) : dS := fun k ρ T => fa ρ T fun d T1 => fr ρ T1 fun as T2 => as.length = m ∧ so as T2 fun d2 T3 => match d2 with | .lst xs => k.nx ((ρ.set i (some (.val d))).set j (some (.own xs))) T3 | _ => False
/-- x, y, z = a, b, f(..) with z's list its own -/
def sPar3C (i j l m : Nat) (so : Sem) (fa fb : dE) (fr : dA) : dS := fun k ρ T => fa ρ T fun d T1 => fb ρ T1 fun d' T1 => fr ρ T1 fun as T2 => as.length = m ∧ so as T2 fun d2 T3 => match d2 with | .lst xs => k.nx (((ρ.set i (some (.val d))).set j (some (.val d'))).set l (some (.own xs))) T3 | _ => False
end
theorem noL_int {i : Int} : (D.int i).noL = True := by simp only [D.noL]
theorem noL_bl {i : Bool} : (D.bl i).noL = True := by simp only [D.noL]
theorem noL_str {i : Str} : (D.str i).noL = True := by simp only [D.noL]
theorem noL_non : D.non.noL = True := by simp only [D.noL]
theorem noL_tup {xs : List D} : (D.tup xs).noL = D.noLL xs := by simp only [D.noL]
theorem noLL_nil : D.noLL [] = True := by simp only [D.noLL]
theorem noLL_cons {x : D} {xs : List D} : D.noLL (x :: xs) = (x.noL ∧ D.noLL xs) := by simp only [D.noLL]
/-! unpacking of a tuple or a list -/
def gTL (n : Nat) (gs : dGs) : dG := fun d ρ T k => match d.it? with | some ds => ds.length = n ∧ gs ds ρ T k | none => False
theorem g_unp {X : Cx} {pos : Pos} {tgs : List Expr} {j : Nat} {gs : dGs} {n : Nat} (hc : X.calm = true) (h : PGs X tgs (tDGs X.K gs)) (hn : (assignEach tgs X.env).length = n := by rfl) (hst : (assignEach tgs X.env).findIdx? (·.1) = none := by rfl) : PGd X (.Tuple tgs j pos) (gTL n gs) := by
  have key : PG X (.Tuple tgs j pos) (fun v σ H Q => gTup X.K n (tDGs X.K gs) v σ H Q ∨ gUnl X.K n (tDGs X.K gs) v σ H Q) := ⟨fun pins s σ H v u Q I r q => q.elim (fun q => (pg_tup hc h hn hst).run pins s σ H v u Q I r q) (fun q => (pg_unl hc h hn hst).run pins s σ H v u Q I r q)⟩
  refine pg_imp key fun v σ H Q h => ?_
  obtain ⟨ρ, T, t, F0, H0, F, d, k, w, r, h, f⟩ := h
  cases d <;> first | exact h.elim | skip
  · obtain ⟨a, vs, rfl, h1, h2⟩ := rep_tup r
    exact .inl ⟨a, vs, rfl, same_t w.w.wt.sub h1, by rw [← h2.len]; exact h.1, ρ, T, t, F0, H0, F, _, k, w, h2, h.2, f⟩
  · obtain ⟨a, vs, rfl, h1, h2⟩ := rep_lst r
    exact .inr ⟨a, vs, rfl, .of (w.w.wt.sub _ _ h1), by rw [← h2.len]; exact h.1, ρ, T, t, F0, H0, F, _, k, w, h2, h.2, f⟩
end L2.G

namespace L2.G
open PySem PySem.Spec PyProof.Rows
/-! zip of two lists or of two tuples -/
def zip2 : List SV → Option (List D × List D)
  | [.val (.lst xs), .val (.lst ys)] => some (xs, ys)
  | [.val (.tup xs), .val (.tup ys)] => some (xs, ys)
  | _ => none
theorem zip2_lst {xs ys : List D} : zip2 [.val (.lst xs), .val (.lst ys)] = some (xs, ys) := rfl
theorem zip2_tup {xs ys : List D} : zip2 [.val (.tup xs), .val (.tup ys)] = some (xs, ys) := rfl
theorem zipD_nil {ys : List D} : zipD [] ys = [] := rfl
theorem zipD_cons {x y : D} {xs ys : List D} : zipD (x :: xs) (y :: ys) = .tup [x, y] :: zipD xs ys := rfl
def iZA (fr : dA) : dI := fun ρ T k => fr ρ T fun as T1 => match zip2 as with | some p => (zipD p.1 p.2).length ≤ 1000000 ∧ k (zipD p.1 p.2) T1 | none => False
end L2.G

namespace L2.G
open PySem PySem.Spec PyProof.Rows
/-! walking at the head: what stands behind is left as it is until the head is told -/
/-- an argument whose type names what is to be left as it is -/
structure Fz {α : Type} (a : α) : Type where
def callS (s : Sem) (as : List SV) (T : Tk) (k : KD) (fz : Fz k := ⟨⟩) : Prop := s as T k
theorem callS_eq {s : Sem} {as : List SV} {T : Tk} {k : KD} : callS s as T k = s as T k := propext Iff.rfl
def iteB (c : Bool) (p q : Prop) (fz : Fz (p, q) := ⟨⟩) : Prop := if c = true then p else q
theorem iteB_t {p q : Prop} : iteB true p q = p := propext Iff.rfl
theorem iteB_f {p q : Prop} : iteB false p q = q := propext Iff.rfl
theorem iteB_of {c : Bool} {p q : Prop} (h1 : c = true → p) (h2 : c = false → q) : iteB c p q := by cases c; exact h2 rfl; exact h1 rfl
theorem iteB_p {c : Bool} {p q : Prop} (h : c = true) (h1 : p) : iteB c p q := by rw [h]; exact h1
theorem iteB_n {c : Bool} {p q : Prop} (h : c = false) (h1 : q) : iteB c p q := by rw [h]; exact h1
theorem iteB_not {c : Bool} {p q : Prop} : iteB (!c) p q = iteB c q p := by cases c <;> rfl
theorem iteB_tt {p : Prop} {c : Bool} : iteB c p p = p := by cases c <;> rfl
def setE (ρ : En) (F : En → Prop) (fz : Fz F := ⟨⟩) : Prop := F ρ
theorem setE_go {ρ : En} {F : En → Prop} : setE ρ F = F ρ := propext Iff.rfl
def pdK (r : PD) (k : D → Prop) (fz : Fz k := ⟨⟩) : Prop := match r with | some p => p.1 ∧ k p.2 | none => False
theorem pdK_t {d : D} {k : D → Prop} : pdK (some (True, d)) k = k d := propext (and_iff_right trivial)
theorem pdK_c {P : Prop} {d : D} {k : D → Prop} : pdK (some (P, d)) k = (P ∧ k d) := propext Iff.rfl
theorem oF_pd {f : D → D → PD} {x y : D} {k : D → Prop} : oF f x y k = pdK (f x y) k := propext Iff.rfl
def varK (s : Option (Option SV)) (T : Tk) (k : KD) (fz : Fz k := ⟨⟩) : Prop := match s with | some (some (.val d)) => k d T | _ => False
theorem varK_go {d : D} {T : Tk} {k : KD} : varK (some (some (.val d))) T k = k d T := propext Iff.rfl
section
variable {ρ : En} {T S : Tk} {k : KD} {d e : D} {o : Op2} {fa fb fe : dE} {ta tb : dT} {fr : dA} {i j l n m : Nat} {as : List SV} {xs ys : List D} {K : dEnds} {f g : dS} {tg : dG} {fi : dI}
theorem h_var : dVar i ρ T k = varK ρ[i]? T k := propext Iff.rfl
theorem h_c : dC d ρ T k = k d T := propext Iff.rfl
theorem h_op : dOp o fa fb ρ T k = fa ρ T fun x T1 => fb ρ T1 fun y T2 => o x y fun d => k d T2 := propext Iff.rfl
/-- keeps a lambda from being taken for its function -/
def wr (p : Prop) : Prop := p
def negK (x : D) (T : Tk) (k : KD) (fz : Fz k := ⟨⟩) : Prop := match x with | .int i => k (.int (-i)) T | _ => False
theorem negK_go {i : Int} : negK (.int i) T k = k (.int (-i)) T := propext Iff.rfl
theorem h_neg : dNeg fa ρ T k = fa ρ T fun x T1 => negK x T1 k := propext Iff.rfl
def bolK (b : Bool) (T : Tk) (k : Bool → Tk → Prop) (fz : Fz k := ⟨⟩) : Prop := k b T
theorem bolK_go {b : Bool} {k : Bool → Tk → Prop} : bolK b T k = k b T := propext Iff.rfl
theorem h_isN : dIsN fa ρ T k = fa ρ T fun x T1 => bolK x.isNon T1 fun b T => k (.bl b) T := propext Iff.rfl
theorem h_notN : dNotN fa ρ T k = fa ρ T fun x T1 => bolK (!x.isNon) T1 fun b T => k (.bl b) T := propext Iff.rfl
def tstK (x : D) (T : Tk) (k : Bool → Tk → Prop) (fz : Fz k := ⟨⟩) : Prop := match x with | .bl c => k c T | _ => False
theorem tstK_go {b : Bool} {k : Bool → Tk → Prop} : tstK (.bl b) T k = k b T := propext Iff.rfl
theorem h_tst {k : Bool → Tk → Prop} : dTst fa ρ T k = fa ρ T fun x T1 => tstK x T1 k := propext Iff.rfl
def andK (c : Bool) (T : Tk) (F : (Bool → Tk → Prop) → Prop) (k : Bool → Tk → Prop) (fz : Fz k := ⟨⟩) : Prop := if c = true then F k else k false T
theorem andK_t {F : (Bool → Tk → Prop) → Prop} {k : Bool → Tk → Prop} : andK true T (fun k' => wr (F k')) k = F k := propext Iff.rfl
theorem andK_f {F : (Bool → Tk → Prop) → Prop} {k : Bool → Tk → Prop} : andK false T F k = k false T := propext Iff.rfl
theorem andK_p {c c2 : Bool} {k : Bool → Tk → Prop} : andK c T (fun k' => wr (k' c2 T)) k = k (c && c2) T := by cases c <;> rfl
theorem andK_q {c c2 : Bool} {P : Prop} {k : Bool → Tk → Prop} : andK c T (fun k' => wr (P ∧ k' c2 T)) k = ((c = true → P) ∧ k (c && c2) T) := by cases c <;> simp [andK, wr]
def orK (c : Bool) (T : Tk) (F : (Bool → Tk → Prop) → Prop) (k : Bool → Tk → Prop) (fz : Fz k := ⟨⟩) : Prop := if c = true then k true T else F k
theorem orK_t {F : (Bool → Tk → Prop) → Prop} {k : Bool → Tk → Prop} : orK true T F k = k true T := propext Iff.rfl
theorem orK_f {F : (Bool → Tk → Prop) → Prop} {k : Bool → Tk → Prop} : orK false T (fun k' => wr (F k')) k = F k := propext Iff.rfl
theorem orK_p {c c2 : Bool} {k : Bool → Tk → Prop} : orK c T (fun k' => wr (k' c2 T)) k = k (c || c2) T := by cases c <;> rfl
theorem orK_q {c c2 : Bool} {P : Prop} {k : Bool → Tk → Prop} : orK c T (fun k' => wr (P ∧ k' c2 T)) k = ((c = false → P) ∧ k (c || c2) T) := by cases c <;> simp [orK, wr]
theorem h_and {k : Bool → Tk → Prop} : dAnd ta tb ρ T k = ta ρ T fun c T1 => andK c T1 (fun k' => wr (tb ρ T1 k')) k := propext Iff.rfl
theorem h_or {k : Bool → Tk → Prop} : dOr ta tb ρ T k = ta ρ T fun c T1 => orK c T1 (fun k' => wr (tb ρ T1 k')) k := propext Iff.rfl
theorem h_not {k : Bool → Tk → Prop} : dNot ta ρ T k = ta ρ T fun c T1 => bolK (!c) T1 k := propext Iff.rfl

def andVK (x : D) (T : Tk) (F : KD → Prop) (k : KD) (fz : Fz k := ⟨⟩) : Prop := match x with | .bl c => if c = true then F k else k (.bl false) T | _ => False
theorem andVK_t {F : KD → Prop} : andVK (.bl true) T (fun k' => wr (F k')) k = F k := propext Iff.rfl
theorem andVK_f {F : KD → Prop} : andVK (.bl false) T F k = k (.bl false) T := propext Iff.rfl
theorem andVK_p {c c2 : Bool} : andVK (.bl c) T (fun k' => wr (k' (.bl c2) T)) k = k (.bl (c && c2)) T := by cases c <;> rfl
theorem andVK_q {c c2 : Bool} {P : Prop} : andVK (.bl c) T (fun k' => wr (P ∧ k' (.bl c2) T)) k = ((c = true → P) ∧ k (.bl (c && c2)) T) := by cases c <;> simp [andVK, wr]
def orVK (x : D) (T : Tk) (F : KD → Prop) (k : KD) (fz : Fz k := ⟨⟩) : Prop := match x with | .bl c => if c = true then k (.bl true) T else F k | _ => False
theorem orVK_t {F : KD → Prop} : orVK (.bl true) T F k = k (.bl true) T := propext Iff.rfl
theorem orVK_f {F : KD → Prop} : orVK (.bl false) T (fun k' => wr (F k')) k = F k := propext Iff.rfl
theorem orVK_p {c c2 : Bool} : orVK (.bl c) T (fun k' => wr (k' (.bl c2) T)) k = k (.bl (c || c2)) T := by cases c <;> rfl
theorem orVK_q {c c2 : Bool} {P : Prop} : orVK (.bl c) T (fun k' => wr (P ∧ k' (.bl c2) T)) k = ((c = false → P) ∧ k (.bl (c || c2)) T) := by cases c <;> simp [orVK, wr]
theorem h_andV : dAndV fa fb ρ T k = fa ρ T fun x T1 => andVK x T1 (fun k' => wr (fb ρ T1 k')) k := propext Iff.rfl
theorem h_orV : dOrV fa fb ρ T k = fa ρ T fun x T1 => orVK x T1 (fun k' => wr (fb ρ T1 k')) k := propext Iff.rfl
def notVK (x : D) (T : Tk) (k : KD) (fz : Fz k := ⟨⟩) : Prop := match x with | .bl c => k (.bl (!c)) T | _ => False
theorem notVK_go {b : Bool} : notVK (.bl b) T k = bolK (!b) T fun b T => k (.bl b) T := propext Iff.rfl
theorem h_notV : dNotV fa ρ T k = fa ρ T fun x T1 => notVK x T1 k := propext Iff.rfl
theorem h_if : dIf ta fa fb ρ T k = ta ρ T fun c T1 => iteB c (fa ρ T1 k) (fb ρ T1 k) := propext Iff.rfl
/-! arguments -/
theorem h_anil {k : List SV → Tk → Prop} : aNil ρ T k = k [] T := propext Iff.rfl
theorem h_acons {k : List SV → Tk → Prop} : aCons fe fr ρ T k = fe ρ T fun d T1 => fr ρ T1 fun as T2 => k (.val d :: as) T2 := propext Iff.rfl
def tnkK (s : Option (Option SV)) (P : Prop) (fz : Fz P := ⟨⟩) : Prop := (match s with | some (some .tank) => True | _ => False) ∧ P
theorem tnkK_go {P : Prop} : tnkK (some (some .tank)) P = P := propext (and_iff_right trivial)
theorem h_atank {k : List SV → Tk → Prop} : aTank i fr ρ T k = tnkK ρ[i]? (fr ρ T fun as T2 => k (.tank :: as) T2) := propext Iff.rfl
def sqK (o : Option (List D)) (k : List D → Prop) (fz : Fz k := ⟨⟩) : Prop := match o with | some xs => k xs | none => False
theorem sqK_go {k : List D → Prop} : sqK (some xs) k = k xs := propext Iff.rfl
theorem h_astar {k : List SV → Tk → Prop} : aStar fe fr ρ T k = fe ρ T fun d T1 => sqK d.it? fun xs => fr ρ T1 fun as T2 => k (xs.map SV.val ++ as) T2 := propext Iff.rfl
theorem h_tup : dTup fr ρ T k = fr ρ T fun as T1 => sqK (vals? as) fun ds => ds.length ≤ 1000000 ∧ k (.tup ds) T1 := propext Iff.rfl
theorem h_lst : dLst fr ρ T k = fr ρ T fun as T1 => sqK (vals? as) fun ds => ds.length ≤ 1000000 ∧ k (.lst ds) T1 := propext Iff.rfl
theorem vals_val : vals? (.val d :: as) = (vals? as).map (d :: ·) := rfl
theorem vals_nil : vals? [] = some [] := rfl
def callN (n : Nat) (s : Sem) (as : List SV) (T : Tk) (k : KD) (fz : Fz k := ⟨⟩) : Prop := as.length = n ∧ s as T k
theorem callN_go {n : Nat} {s : Sem} : callN n s as T k = (as.length = n ∧ callS s as T k) := propext Iff.rfl
theorem h_call {s : Sem} : dCall n s fr ρ T k = fr ρ T fun as T1 => callN n s as T1 k := propext Iff.rfl
def lstK (d : D) (k : List D → Prop) (fz : Fz k := ⟨⟩) : Prop := match d with | .lst xs => k xs | _ => False
theorem lstK_go {k : List D → Prop} : lstK (.lst xs) k = k xs := propext Iff.rfl
theorem h_callT {s so : Sem} : dCallT n s so fr ρ T k = fr ρ T fun as T1 => callN n so as T1 fun d T2 => lstK d fun xs => callS s [.tank] xs fun r _ => k r T2 := propext Iff.rfl
theorem h_blt {f : List D → PD} : dBlt (oG f) fr ρ T k = fr ρ T fun as T1 => sqK (vals? as) fun ds => pdK (f ds) fun d => k d T1 := propext Iff.rfl
def opK (o : Option D) (k : D → Prop) (fz : Fz k := ⟨⟩) : Prop := match o with | some d => k d | none => False
theorem opK_go {k : D → Prop} : opK (some d) k = k d := propext Iff.rfl
def intK (d : D) (k : Int → Prop) (fz : Fz k := ⟨⟩) : Prop := match d with | .int i => k i | _ => False
theorem intK_go {i : Int} {k : Int → Prop} : intK (.int i) k = k i := propext Iff.rfl
theorem h_psome {k : Option Int → Tk → Prop} : pSome fe ρ T k = fe ρ T fun d T1 => intK d fun i => k (some i) T1 := propext Iff.rfl
theorem h_slq {lo hi : dP} : dSlQ fe lo hi ρ T k = fe ρ T fun x T1 => lo ρ T1 fun l T2 => hi ρ T2 fun h T3 => opK (x.cut? l h) fun d => k d T3 := propext Iff.rfl
def blqK (o : Option Bool) (T : Tk) (k : KD) (fz : Fz k := ⟨⟩) : Prop := match o with | some r => k (.bl r) T | none => False
theorem blqK_go {b : Bool} : blqK (some b) T k = k (.bl b) T := propext Iff.rfl
theorem h_isi {t : Ty} : dIsi t fe ρ T k = fe ρ T fun d T1 => blqK (isTy t d) T1 k := propext Iff.rfl
/-! walks -/
theorem h_iQ {k : List D → Tk → Prop} : iQ fe ρ T k = fe ρ T fun d T1 => sqK d.it? fun xs => xs.length ≤ 1000000 ∧ k xs T1 := propext Iff.rfl
def r1K (as : List SV) (T : Tk) (k : List D → Tk → Prop) (fz : Fz k := ⟨⟩) : Prop := match as with | [.val (.int j)] => (j ≤ 1000000 ∧ -(2 ^ 62) ≤ j) ∧ k (intsL 0 j.toNat) T | _ => False
theorem r1K_go {j : Int} {k : List D → Tk → Prop} : r1K [.val (.int j)] T k = ((j ≤ 1000000 ∧ -(2 ^ 62) ≤ j) ∧ k (intsL 0 j.toNat) T) := propext Iff.rfl
theorem h_iR1 {k : List D → Tk → Prop} : iR1 fr ρ T k = fr ρ T fun as T1 => r1K as T1 k := by
  unfold iR1; congr 1; funext as T1; unfold r1K; split <;> simp only [and_assoc]
def r2K (as : List SV) (T : Tk) (k : List D → Tk → Prop) (fz : Fz k := ⟨⟩) : Prop := match as with | [.val (.int i), .val (.int j)] => (j - i ≤ 1000000 ∧ -(2 ^ 61) ≤ i ∧ i < 2 ^ 61 ∧ -(2 ^ 61) ≤ j ∧ j < 2 ^ 61) ∧ k (intsL i (j - i).toNat) T | _ => False
theorem r2K_go {i j : Int} {k : List D → Tk → Prop} : r2K [.val (.int i), .val (.int j)] T k = ((j - i ≤ 1000000 ∧ -(2 ^ 61) ≤ i ∧ i < 2 ^ 61 ∧ -(2 ^ 61) ≤ j ∧ j < 2 ^ 61) ∧ k (intsL i (j - i).toNat) T) := propext Iff.rfl
theorem h_iR2 {k : List D → Tk → Prop} : iR2 fr ρ T k = fr ρ T fun as T1 => r2K as T1 k := propext Iff.rfl
def r3K (as : List SV) (T : Tk) (k : List D → Tk → Prop) (fz : Fz k := ⟨⟩) : Prop := match as with | [.val (.int i), .val (.int j), .val (.int c)] => (c = -1 ∧ i - j ≤ 1000000 ∧ -(2 ^ 61) ≤ i ∧ i < 2 ^ 61 ∧ -(2 ^ 61) ≤ j ∧ j < 2 ^ 61) ∧ k (downL i (i - j).toNat) T | _ => False
theorem r3K_go {i j c : Int} {k : List D → Tk → Prop} : r3K [.val (.int i), .val (.int j), .val (.int c)] T k = ((c = -1 ∧ i - j ≤ 1000000 ∧ -(2 ^ 61) ≤ i ∧ i < 2 ^ 61 ∧ -(2 ^ 61) ≤ j ∧ j < 2 ^ 61) ∧ k (downL i (i - j).toNat) T) := propext Iff.rfl
theorem h_iR3 {k : List D → Tk → Prop} : iR3 fr ρ T k = fr ρ T fun as T1 => r3K as T1 k := propext Iff.rfl
def zpK (o : Option (List D × List D)) (T : Tk) (k : List D → Tk → Prop) (fz : Fz k := ⟨⟩) : Prop := match o with | some p => (zipD p.1 p.2).length ≤ 1000000 ∧ k (zipD p.1 p.2) T | none => False
theorem zpK_go {k : List D → Tk → Prop} : zpK (some (xs, ys)) T k = ((zipD xs ys).length ≤ 1000000 ∧ k (zipD xs ys) T) := propext Iff.rfl
theorem h_iZA {k : List D → Tk → Prop} : iZA fr ρ T k = fr ρ T fun as T1 => zpK (zip2 as) T1 k := propext Iff.rfl
theorem h_iEn {k : List D → Tk → Prop} : iEn fe ρ T k = fe ρ T fun d T1 => sqK d.it? fun xs => xs.length ≤ 1000000 ∧ k (enD 0 xs) T1 := propext Iff.rfl
/-! statements -/
theorem h_seq : sSeq f g K ρ T = f { K with nx := g K } ρ T := propext Iff.rfl
theorem h_ret : sRet fe K ρ T = fe ρ T K.rt := propext Iff.rfl
theorem h_expr : sExpr fe K ρ T = fe ρ T fun _ T1 => K.nx ρ T1 := propext Iff.rfl
theorem h_sif : sIf ta f g K ρ T = ta ρ T fun c T1 => iteB c (f K ρ T1) (g K ρ T1) := propext Iff.rfl
theorem h_asg : sAsg fe tg K ρ T = fe ρ T fun d T1 => tg d ρ T1 K.nx := propext Iff.rfl
theorem h_gN {k : En → Tk → Prop} : gN i d ρ T k = setE (ρ.set i (some (.val d))) fun ρ => k ρ T := propext Iff.rfl
theorem h_gsnil {k : En → Tk → Prop} : gsNil [] ρ T k = k ρ T := propext (and_iff_right rfl)
theorem h_gscons {gs : dGs} {k : En → Tk → Prop} : gsCons tg gs (d :: xs) ρ T k = tg d ρ T fun ρ' T' => gs xs ρ' T' k := propext Iff.rfl
theorem h_gTL {gs : dGs} {k : En → Tk → Prop} : gTL n gs d ρ T k = sqK d.it? fun ds => ds.length = n ∧ gs ds ρ T k := propext Iff.rfl
theorem h_gT {gs : dGs} {k : En → Tk → Prop} : gT n gs (.tup xs) ρ T k = (xs.length = n ∧ gs xs ρ T k) := propext Iff.rfl
def parK (i j : Nat) (as : List SV) (ρ : En) (T : Tk) (k : En → Tk → Prop) (fz : Fz k := ⟨⟩) : Prop := match as with | [.val d, .val e] => k ((ρ.set i (some (.val d))).set j (some (.val e))) T | _ => False
theorem parK_go {k : En → Tk → Prop} : parK i j [.val d, .val e] ρ T k = setE ((ρ.set i (some (.val d))).set j (some (.val e))) fun ρ => k ρ T := propext Iff.rfl
theorem h_par : sPar i j fr K ρ T = fr ρ T fun as T1 => parK i j as ρ T1 K.nx := propext Iff.rfl
def parK3 (i j l : Nat) (as : List SV) (ρ : En) (T : Tk) (k : En → Tk → Prop) (fz : Fz k := ⟨⟩) : Prop := match as with | [.val d, .val e, .val f] => k (((ρ.set i (some (.val d))).set j (some (.val e))).set l (some (.val f))) T | _ => False
theorem parK3_go {c : D} {k : En → Tk → Prop} : parK3 i j l [.val d, .val e, .val c] ρ T k = setE (((ρ.set i (some (.val d))).set j (some (.val e))).set l (some (.val c))) fun ρ => k ρ T := propext Iff.rfl
theorem h_par3 : sPar3 i j l fr K ρ T = fr ρ T fun as T1 => parK3 i j l as ρ T1 K.nx := propext Iff.rfl
theorem h_parO : sParO i j fa fr K ρ T = fa ρ T fun d T1 => fr ρ T1 fun as T2 => sqK (vals? as) fun ds => ds.length ≤ 1000000 ∧ setE ((ρ.set i (some (.val d))).set j (some (.own ds))) fun ρ => K.nx ρ T2 := propext Iff.rfl
theorem h_parC {so : Sem} : sParC i j m so fa fr K ρ T = fa ρ T fun d T1 => fr ρ T1 fun as T2 => callN m so as T2 fun d2 T3 => lstK d2 fun xs => setE ((ρ.set i (some (.val d))).set j (some (.own xs))) fun ρ => K.nx ρ T3 := propext Iff.rfl
theorem h_par3C {so : Sem} : sPar3C i j l m so fa fb fr K ρ T = fa ρ T fun d T1 => fb ρ T1 fun d' T1 => fr ρ T1 fun as T2 => callN m so as T2 fun d2 T3 => lstK d2 fun xs => setE (((ρ.set i (some (.val d))).set j (some (.val d'))).set l (some (.own xs))) fun ρ => K.nx ρ T3 := propext Iff.rfl
theorem h_own : sOwn i fr K ρ T = fr ρ T fun as T1 => sqK (vals? as) fun ds => ds.length ≤ 1000000 ∧ setE (ρ.set i (some (.own ds))) fun ρ => K.nx ρ T1 := propext Iff.rfl
theorem h_ownC {so : Sem} : sOwnC i m so fr K ρ T = fr ρ T fun as T1 => callN m so as T1 fun d T2 => lstK d fun xs => setE (ρ.set i (some (.own xs))) fun ρ => K.nx ρ T2 := propext Iff.rfl
def ownK (s : Option (Option SV)) (k : List D → Prop) (e : Prop) (fz : Fz (k, e) := ⟨⟩) : Prop := match s with | some (some (.own xs)) => k xs | _ => e
theorem ownK_o {k : List D → Prop} {e : Prop} : ownK (some (some (.own xs))) k e = k xs := propext Iff.rfl
theorem ownK_v {k : List D → Prop} {e : Prop} : ownK (some (some (.val d))) k e = e := propext Iff.rfl
theorem ownK_n {k : List D → Prop} {e : Prop} : ownK (some none) k e = e := propext Iff.rfl
theorem h_frz : sFrz i f K ρ T = ownK ρ[i]? (fun xs => setE (ρ.set i (some (.val (.lst xs)))) fun ρ => f K ρ T) False := propext Iff.rfl
theorem h_frq : sFrq i f K ρ T = ownK ρ[i]? (fun xs => setE (ρ.set i (some (.val (.lst xs)))) fun ρ => f K ρ T) (f K ρ T) := propext Iff.rfl
theorem h_app : sApp i fe K ρ T = ownK ρ[i]? (fun xs => fe ρ T fun d T1 => xs.length < 1000000 ∧ setE (ρ.set i (some (.own (xs ++ [d])))) fun ρ => K.nx ρ T1) False := propext Iff.rfl
theorem h_view : dView i fe ρ T k = ownK ρ[i]? (fun xs => setE (ρ.set i (some (.val (.lst xs)))) fun ρ => fe ρ T fun d T1 => d.noL ∧ D.noLL T1 ∧ k d T1) (fe ρ T k) := propext Iff.rfl
theorem h_viewT {k : Bool → Tk → Prop} : dViewT i ta ρ T k = ownK ρ[i]? (fun xs => setE (ρ.set i (some (.val (.lst xs)))) fun ρ => ta ρ T fun d T1 => D.noLL T1 ∧ k d T1) (ta ρ T k) := propext Iff.rfl
def natK (o : Option Nat) (k : Nat → Prop) (fz : Fz k := ⟨⟩) : Prop := match o with | some m => k m | none => False
theorem natK_go {k : Nat → Prop} : natK (some n) k = k n := propext Iff.rfl
theorem h_gOs {k : En → Tk → Prop} : gOs i fe d ρ T k = ownK ρ[i]? (fun xs => fe ρ T fun j T1 => intK j fun j => natK (ixN xs.length j) fun m => setE (ρ.set i (some (.own (xs.set m d)))) fun ρ => k ρ T1) False := propext Iff.rfl
/-! loops -/
def forK (g : dG) (f : dS) (k : dEnds) (xs : List D) (ρ : En) (T : Tk) (fz : Fz (g, f, k) := ⟨⟩) : Prop := forL g f k xs ρ T
theorem forK_nil : forK tg f K [] ρ T = K.nx ρ T := propext Iff.rfl
theorem forK_cons : forK tg f K (d :: xs) ρ T = tg d ρ T fun ρ1 T1 => f { nx := fun ρ T => forK tg f K xs ρ T, rt := K.rt, bk := K.nx, ct := fun ρ T => forK tg f K xs ρ T } ρ1 T1 := propext Iff.rfl
theorem h_for : sForI fi tg f K ρ T = fi ρ T fun xs T1 => forK tg f K xs ρ T1 := propext Iff.rfl
def lcK (ρ : En) (c : dC1) (tt : dT) (el : dE) (k : List D → Tk → Prop) (xs acc : List D) (T : Tk) (fz : Fz (c, tt, el, k) := ⟨⟩) : Prop := lcD ρ c tt el k xs acc T
def enK (o : Option En) (k : En → Prop) (fz : Fz k := ⟨⟩) : Prop := match o with | some ρ => k ρ | none => False
theorem enK_go {k : En → Prop} : enK (some ρ) k = k ρ := propext Iff.rfl
variable {c : dC1} {el : dE} {kk : List D → Tk → Prop}
theorem lcK_nil : lcK ρ c ta el kk [] xs T = kk xs T := propext Iff.rfl
theorem lcK_cons : lcK ρ c ta el kk (d :: ys) xs T = enK (c d ρ) fun ρ1 => ta ρ1 T fun b T1 => iteB b (el ρ1 T1 fun y T2 => lcK ρ c ta el kk ys (xs ++ [y]) T2) (lcK ρ c ta el kk ys xs T1) := propext Iff.rfl
theorem h_lc {vs : List Nat} : dLc vs fi c ta el ρ T k = fi ρ T fun xs T1 => setE (wipeD ρ vs) fun ρ => lcK ρ c ta el (fun acc T2 => k (.lst acc) T2) xs [] T1 := propext Iff.rfl
theorem h_cN : cN i d ρ = some (ρ.set i (some (.val d))) := rfl
theorem h_cT {is : List Nat} : cT is (.tup xs) ρ = setAll is xs ρ := rfl
theorem h_yes {k : Bool → Tk → Prop} : dYes ρ T k = k true T := propext Iff.rfl
theorem setAll_nil : setAll [] [] ρ = some ρ := rfl
theorem setAll_cons {is : List Nat} : setAll (i :: is) (d :: xs) ρ = setAll is xs (ρ.set i (some (.val d))) := rfl
theorem wipe_nil : wipeD ρ [] = ρ := rfl
theorem wipe_cons {vs : List Nat} : wipeD ρ (i :: vs) = (wipeD ρ vs).set i none := rfl
end
/-! == of data without deep nests -/
mutual
def okN : Nat → D → Prop
  | _, .non => True | _, .bl _ => True | _, .int _ => True | _, .str x => PyData.strOk x = true
  | n, .tup xs => 0 < n ∧ okL (n - 1) xs | n, .lst xs => 0 < n ∧ okL (n - 1) xs | _, .obj _ _ _ => False | _, .ref _ => False | _, .scr _ => False | _, .dct _ _ => False
def okL : Nat → List D → Prop
  | _, [] => True
  | n, x :: r => okN n x ∧ okL n r
end
mutual
theorem okN_ok : ∀ {n : Nat} {d : D}, okN n d → d.isPy = true ∧ d.py.canLay0 = true ∧ d.py.depth ≤ n
  | n, .non, _ => ⟨rfl, rfl, Nat.zero_le _⟩
  | n, .bl _, _ => ⟨rfl, rfl, Nat.zero_le _⟩
  | n, .int _, _ => ⟨rfl, rfl, Nat.zero_le _⟩
  | n, .str x, h => by
    simp only [okN] at h
    exact ⟨rfl, by simp only [D.py, PyData.canLay0]; exact h, by simp only [D.py, PyData.depth]; exact Nat.zero_le _⟩
  | n, .tup xs, h => by
    simp only [okN] at h
    obtain ⟨h1, h2, h3⟩ := okL_ok h.2
    refine ⟨by simpa only [D.isPy] using h1, by simpa only [D.py, PyData.canLay0] using h2, ?_⟩
    simp only [D.py, PyData.depth]
    omega
  | n, .lst xs, h => by
    simp only [okN] at h
    obtain ⟨h1, h2, h3⟩ := okL_ok h.2
    refine ⟨by simpa only [D.isPy] using h1, by simpa only [D.py, PyData.canLay0] using h2, ?_⟩
    simp only [D.py, PyData.depth]
    omega
  | n, .obj _ _ _, h => by simp only [okN] at h
  | n, .ref _, h => by simp only [okN] at h
  | n, .scr _, h => by simp only [okN] at h
  | n, .dct _ _, h => by simp only [okN] at h
theorem okL_ok : ∀ {n : Nat} {xs : List D}, okL n xs → D.isPyL xs = true ∧ PyData.canLayAll0 (D.pyL xs) = true ∧ PyData.depthAll (D.pyL xs) ≤ n
  | n, [], _ => ⟨rfl, rfl, Nat.zero_le _⟩
  | n, x :: r, h => by
    simp only [okL] at h
    obtain ⟨a1, a2, a3⟩ := okN_ok h.1
    obtain ⟨b1, b2, b3⟩ := okL_ok h.2
    refine ⟨by simp only [D.isPyL, a1, b1, Bool.and_self], by simp only [D.pyL, PyData.canLayAll0, a2, b2, Bool.and_self], ?_⟩
    simp only [D.pyL, PyData.depthAll]
    omega
end
theorem okN_eqOk {d : D} (h : okN 60 d) : d.eqOk := by
  obtain ⟨h1, h2, h3⟩ := okN_ok h
  refine ⟨h1, ?_⟩
  unfold SeqAt.shaped
  simp only [h2, Bool.true_and, decide_eq_true_eq]
  omega
theorem okN_t {d : D} (h : okN 60 d) : d.eqOk = True := eq_true (okN_eqOk h)
section
variable {n : Nat} {d : D} {xs : List D} {i : Int} {b : Bool}
theorem okN_non : okN n .non = True := by simp only [okN]
theorem okN_int : okN n (.int i) = True := by simp only [okN]
theorem okN_bl : okN n (.bl b) = True := by simp only [okN]
theorem okN_tup : okN n (.tup xs) = (0 < n ∧ okL (n - 1) xs) := by simp only [okN]
theorem okN_lst : okN n (.lst xs) = (0 < n ∧ okL (n - 1) xs) := by simp only [okN]
theorem okL_nil : okL n [] = True := by simp only [okL]
theorem okL_cons : okL n (d :: xs) = (okN n d ∧ okL n xs) := by simp only [okL]
end
/-! == of unlike kinds -/
section
variable {i j : Int} {b : Bool} {s : Str} {xs ys : List D}
theorem fEq_it : fEq (.int i) (.tup xs) = some ((D.int i).eqOk ∧ (D.tup xs).eqOk, .bl (eqD (.int i) (.tup xs))) := rfl
theorem fEq_ti : fEq (.tup xs) (.int i) = some ((D.tup xs).eqOk ∧ (D.int i).eqOk, .bl (eqD (.tup xs) (.int i))) := rfl
theorem fEq_in : fEq (.int i) .non = some ((D.int i).eqOk ∧ D.non.eqOk, .bl (eqD (.int i) .non)) := rfl
theorem fEq_ni : fEq .non (.int i) = some (D.non.eqOk ∧ (D.int i).eqOk, .bl (eqD .non (.int i))) := rfl
theorem fNe_in : fNe (.int i) .non = some ((D.int i).eqOk ∧ D.non.eqOk, .bl (!eqD (.int i) .non)) := rfl
theorem fNe_ni : fNe .non (.int i) = some (D.non.eqOk ∧ (D.int i).eqOk, .bl (!eqD .non (.int i))) := rfl
end
end L2.G

namespace L2.G
open PySem PySem.Spec PyProof.Rows

/-! is, is not of truth values -/
def bIs (a b : Bool) : Bool := decide (a = b)
theorem bIs_t {a : Bool} : bIs a true = a := by cases a <;> rfl
theorem bIs_f {a : Bool} : bIs a false = !a := by cases a <;> rfl
theorem bIs_s {a : Bool} : bIs a a = true := by cases a <;> rfl
def fIs : D → D → PD | .bl i, .bl j => some (True, .bl (bIs i j)) | _, _ => none
def fIsn : D → D → PD | .bl i, .bl j => some (True, .bl (!bIs i j)) | _, _ => none
theorem fIs_bl {i j : Bool} : fIs (.bl i) (.bl j) = some (True, .bl (bIs i j)) := rfl
theorem fIsn_bl {i j : Bool} : fIsn (.bl i) (.bl j) = some (True, .bl (!bIs i j)) := rfl
section
variable {X : Cx} {a b e : Expr} {fa fb fe : dE} {pos : Pos}
end

/-! xs[::-1] of lists and tuples -/
section
variable {prog : Program} {w : World} {A : Around} {E : Value → Shared → Prop} {s : Shared}
end

section
variable {X : Cx} {e : Expr} {fe : dE}
def D.rev? : D → Option D | .lst xs => some (.lst xs.reverse) | .scr xs => some (.lst xs.reverse) | .tup xs => some (.tup xs.reverse) | _ => none
theorem rev_lst {xs : List D} : D.rev? (.lst xs) = some (.lst xs.reverse) := rfl
theorem rev_scr {xs : List D} : D.rev? (.scr xs) = some (.lst xs.reverse) := rfl
theorem rev_tup {xs : List D} : D.rev? (.tup xs) = some (.tup xs.reverse) := rfl
def dRev (fe : dE) : dE := fun ρ T k => fe ρ T fun x T1 => match x.rev? with | some d => k d T1 | none => False
theorem h_rev {ρ : En} {T : Tk} {k : KD} : dRev fe ρ T k = fe ρ T fun x T1 => opK x.rev? fun d => k d T1 := propext Iff.rfl
end

/-! x = [.. for ..], x a list that this def will change -/
section
variable {X : Cx} {tg : Expr} {pos : Pos}
def sLcO (i : Nat) (vs : List Nat) (fi : dI) (c : dC1) (tt : dT) (el : dE) : dS := fun k ρ T => fi ρ T fun xs T1 => lcD (wipeD ρ vs) c tt el (fun acc T2 => k.nx (ρ.set i (some (.own acc))) T2) xs [] T1
theorem h_lcO {i : Nat} {vs : List Nat} {fi : dI} {c : dC1} {ta : dT} {el : dE} {K : dEnds} {ρ : En} {T : Tk} : sLcO i vs fi c ta el K ρ T = fi ρ T fun xs T1 => setE (wipeD ρ vs) fun ρ' => lcK ρ' c ta el (fun acc T2 => setE (ρ.set i (some (.own acc))) fun ρ => K.nx ρ T2) xs [] T1 := propext Iff.rfl
end

/-! {} and {"x": e}: dicts that are only handed on -/
section
variable {X : Cx} {e : Expr} {fe : dE} {pos p1 : Pos} {j : Nat}
def dDct0 : dE := fun _ T k => k (.dct [] []) T
theorem h_dct0 {ρ : En} {T : Tk} {k : KD} : dDct0 ρ T k = k (.dct [] []) T := propext Iff.rfl
theorem d_dct0 : PEd X (.Dict [] [] pos) dDct0 := by
  refine pe_imp pe_dnewK fun σ H Q h => ?_
  obtain ⟨ρ, T, t, F, k, w, h, f⟩ := h
  exact fun p hp => f.dct0 w.wt hp h
def dDct1 (x : Str) (fe : dE) : dE := fun ρ T k => fe ρ T fun d T1 => k (.dct [.inr x] [d]) T1
theorem h_dct1 {x : Str} {ρ : En} {T : Tk} {k : KD} : dDct1 x fe ρ T k = fe ρ T fun d T1 => k (.dct [.inr x] [d]) T1 := propext Iff.rfl
end
theorem isTy_dct {T : Ty} {ks : List Key} {ds : List D} : isTy T (.dct ks ds) = some false := by cases T <;> rfl
theorem isNon_dct {ks : List Key} {ds : List D} : (D.dct ks ds).isNon = false := rfl
end L2.G

namespace L2.G
open PySem PySem.Spec PyProof.Rows
/-! the greatest of a list of ints -/
def mxL (n : Int) (r : List Int) : Int := r.foldl (fun a b => if b > a then b else a) n
def mxR : Option (List Int) → PD | some (n :: r) => some (True, .int (mxL n r)) | _ => none
def fMaxL : List D → PD | [.lst xs] => mxR (nums? xs) | _ => none
theorem fMaxL_lst {xs : List D} : fMaxL [.lst xs] = mxR (nums? xs) := rfl
theorem mxR_some {n : Int} {r : List Int} : mxR (some (n :: r)) = some (True, .int (mxL n r)) := rfl
section
variable {X : Cx} {a b e : Expr} {fa fb fe : dE} {fr : dA} {p pos : Pos} {n : Nat} {es : List Expr} {tg : Expr}
end
end L2.G

namespace L2.G
open PySem PySem.Spec PyProof.Rows
/-! arguments by name, in another order -/
def pmC {α : Type} (o : Option α) (r : List α) : List α := match o with | some x => x :: r | none => r
def permL {α : Type} : List Nat → List α → List α
  | [], _ => []
  | i :: is, xs => pmC xs[i]? (permL is xs)
section
variable {X : Cx} {CX : CXT} {n : Nat} {f : Addr} {fd : FuncData} {ps ks : List Str} {sp : Sp} {E : XK} {x : Str} {p pos : Pos} {kws : List Keyword} {tk : TA}
end
section
variable {X : Cx} {n : Nat} {x : Str} {ps ks : List Str} {sem : Sem} {p pos : Pos} {kws : List Keyword} {fr : dA} {st : Stmt} {is : List Nat}
def dCallP (n : Nat) (is : List Nat) (sem : Sem) (fr : dA) : dE := fun ρ T k => fr ρ T fun as T1 => as.length = n ∧ (permL is as).length = n ∧ sem (permL is as) T1 k
end
/-! the walker -/
def callP (n : Nat) (is : List Nat) (s : Sem) (as : List SV) (T : Tk) (k : KD) (fz : Fz k := ⟨⟩) : Prop := as.length = n ∧ (permL is as).length = n ∧ s (permL is as) T k
theorem h_callP {n : Nat} {is : List Nat} {s : Sem} {fr : dA} {ρ : En} {T : Tk} {k : KD} : dCallP n is s fr ρ T k = fr ρ T fun as T1 => callP n is s as T1 k := propext Iff.rfl
theorem callP_go {n : Nat} {is : List Nat} {s : Sem} {as : List SV} {T : Tk} {k : KD} : callP n is s as T k = (as.length = n ∧ (permL is as).length = n ∧ callS s (permL is as) T k) := propext Iff.rfl
theorem permL_n {α : Type} {xs : List α} : permL [] xs = [] := rfl
theorem permL_c {α : Type} {i : Nat} {is : List Nat} {xs : List α} : permL (i :: is) xs = pmC xs[i]? (permL is xs) := rfl
theorem pmC_s {α : Type} {x : α} {r : List α} : pmC (some x) r = x :: r := rfl
end L2.G

namespace L2.G
open PySem PySem.Spec PyProof.Rows
/-! sorted lists of tuples of ints, of either sign: over the library's sort of tuples by their keys -/
/-! over data -/
def tI (ns : List Int) : D := .tup (ns.map D.int)
/-- the order of tuples of one length -/
def lexLt : List Int → List Int → Bool
  | a :: r, b :: q => if a < b then true else if b < a then false else lexLt r q
  | _, _ => false
def insL (x : List Int) : List (List Int) → List (List Int)
  | [] => [x]
  | y :: r => if lexLt y x then y :: insL x r else x :: y :: r
def isort : List (List Int) → List (List Int)
  | [] => []
  | x :: r => insL x (isort r)
/-! the library's key of a tuple of ints -/
abbrev noS : Nat → Bool := fun _ => false
section
variable {X : Cx} {pins : List (Addr × Obj)} {σ : L2.St} {H : Hp} {s : Shared}
end
def tups? : List D → Option (List (List Int))
  | [] => some []
  | .tup xs :: r => match nums? xs, tups? r with | some n, some m => some (n :: m) | _, _ => none
  | _ :: _ => none
def TupsD (nss : List (List Int)) : Prop := nss.length < 64 ∧ ∃ d, 1 ≤ d ∧ ∀ n ∈ nss, n.length = d
def stR : Option (List (List Int)) → PD | some nss => some (TupsD nss, .lst ((isort nss).map tI)) | none => none
def fSortT : List D → PD | [.lst xs] => stR (tups? xs) | _ => none
theorem fSortT_lst {xs : List D} : fSortT [.lst xs] = stR (tups? xs) := rfl
theorem stR_some {n : List (List Int)} : stR (some n) = some (TupsD n, .lst ((isort n).map tI)) := rfl
section
variable {X : Cx} {e : Expr} {fr : dA} {p pos : Pos} {es : List Expr}
end
/-! bit_length -/
def bitI (i : Int) : Int := (Builtin.Int.intBits i : Nat)
def fBitL : D → D → PD | .int i, _ => some (True, .int (bitI i)) | _, _ => none
theorem fBitL_int {i : Int} {d : D} : fBitL (.int i) d = some (True, .int (bitI i)) := rfl
/-! short lists -/
theorem tups_nil : tups? [] = some [] := rfl
def tpC : Option (List Int) → Option (List (List Int)) → Option (List (List Int)) | some n, some m => some (n :: m) | _, _ => none
theorem tups_c {xs r : List D} : tups? (.tup xs :: r) = tpC (nums? xs) (tups? r) := rfl
theorem tpC_some {n : List Int} {m : List (List Int)} : tpC (some n) (some m) = some (n :: m) := rfl
end L2.G

namespace L2.G
open PySem PySem.Spec PyProof.Rows
/-! a call whose first arguments stand by place and whose later ones by name -/
def aApp (m n : Nat) (f g : dA) : dA := fun ρ T k => f ρ T fun as T1 => g ρ T1 fun bs T2 => as.length = m ∧ bs.length = n ∧ k (as ++ bs) T2
section
variable {X : Cx} {CX : CXT} {n m : Nat} {f : Addr} {fd : FuncData} {ps ks : List Str} {sp : Sp} {E : XK} {x : Str} {p pos : Pos} {e : Expr} {es : List Expr} {kws : List Keyword} {t tk : TA}
end
section
variable {X : Cx} {n m : Nat} {x : Str} {ps ks : List Str} {sem : Sem} {p pos : Pos} {e : Expr} {es : List Expr} {kws : List Keyword} {fa fr : dA} {st : Stmt} {is : List Nat}
end
/-! the walker -/
theorem h_aApp {m n : Nat} {f g : dA} {ρ : En} {T : Tk} {k : List SV → Tk → Prop} : aApp m n f g ρ T k = f ρ T fun as T1 => g ρ T1 fun bs T2 => as.length = m ∧ bs.length = n ∧ k (as ++ bs) T2 := propext Iff.rfl
end L2.G

namespace L2.G
open PySem PySem.Spec PyProof.Rows
/-! x, y = [..], a where x's list is its own -/
section
variable {X : Cx} {a : Expr} {es : List Expr} {fa : dE} {fr : dA} {pos : Pos}
def sParF (i j : Nat) (fr : dA) (fa : dE) : dS := fun k ρ T => fr ρ T fun as T1 => match vals? as with | some ds => ds.length ≤ 1000000 ∧ fa ρ T1 fun d T2 => k.nx ((ρ.set i (some (.own ds))).set j (some (.val d))) T2 | none => False
end
/-! the walker -/
theorem h_parF {i j : Nat} {fa : dE} {fr : dA} {K : dEnds} {ρ : En} {T : Tk} : sParF i j fr fa K ρ T = fr ρ T fun as T1 => sqK (vals? as) fun ds => ds.length ≤ 1000000 ∧ fa ρ T1 fun d T2 => setE ((ρ.set i (some (.own ds))).set j (some (.val d))) fun ρ => K.nx ρ T2 := propext Iff.rfl
end L2.G

namespace L2.G
open PySem PySem.Spec PyProof.Rows
/-! the head: what the top leaves, read by one run off the tree (nothing of the top is written out) -/
/-- the value u is the data d; g tells the object at an address -/
def repB (g : Addr → Option Obj) : Nat → D → Value → Bool
  | 0, _, _ => false
  | _ + 1, .int i, .int j _ => decide (i = j)
  | _ + 1, .str i, .str j _ => decide (i = j)
  | _ + 1, .bl i, .bool j => i == j
  | _ + 1, .non, .none => true
  | n + 1, .tup ds, .ref a => (match g a with
    | some ⟨.type c, _, .seq its _, _⟩ => decide (c = "tuple") && (Nat.ble its.size 1000000 && (Nat.beq ds.length its.toList.length && (ds.zip its.toList).all fun p => repB g n p.1 p.2))
    | _ => false)
  | _ + 1, _, _ => false
/-- the objects within a value -/
def inV (g : Addr → Option Obj) : Nat → Value → List Addr
  | 0, _ => []
  | n + 1, .ref a => a :: (match g a with
    | some ⟨_, _, .seq its _, _⟩ => its.toList.flatMap (inV g n)
    | _ => [])
  | _ + 1, _ => []
theorem repB_l {g : Addr → Option Obj} {K : PySem.W.Frag} {n : Nat} (ih : ∀ {d : D} {u : Value}, (∀ a ∈ inV g n u, ∀ o, g a = some o → K.lookup a = some o) → repB g n d u = true → GRep K d u) : ∀ {ds : List D} {us : List Value}, (∀ a ∈ us.flatMap (inV g n), ∀ o, g a = some o → K.lookup a = some o) → ds.length = us.length → ((ds.zip us).all fun p => repB g n p.1 p.2) = true → GRepL K ds us
  | [], [], _, _, _ => .nil
  | [], _ :: _, _, e, _ => by simp at e
  | _ :: _, [], _, e, _ => by simp at e
  | d :: ds, u :: us, k, e, h => by
    rw [List.zip_cons_cons, List.all_cons, Bool.and_eq_true] at h
    rw [List.flatMap_cons] at k
    exact .cons (ih (fun a q => k a (List.mem_append.mpr (.inl q))) h.1) (repB_l ih (fun a q => k a (List.mem_append.mpr (.inr q))) (by simpa using e) h.2)
theorem repB_ok {g : Addr → Option Obj} {K : PySem.W.Frag} : ∀ {n : Nat} {d : D} {u : Value}, (∀ a ∈ inV g n u, ∀ o, g a = some o → K.lookup a = some o) → repB g n d u = true → GRep K d u
  | 0, _, _, _, h => nomatch h
  | n + 1, d, u, k, h => by
    have ih := fun {d u} => repB_ok (g := g) (K := K) (n := n) (d := d) (u := u)
    cases d with
    | int i =>
      cases u with
      | int j t => have e : i = j := of_decide_eq_true h; subst e; exact .int _ _
      | _ => exact nomatch h
    | str i =>
      cases u with
      | str j t => have e : i = j := of_decide_eq_true h; subst e; exact .str _ _
      | _ => exact nomatch h
    | bl i =>
      cases u with
      | bool j => have e : i = j := eq_of_beq h; subst e; exact .bl _
      | _ => exact nomatch h
    | non =>
      cases u with
      | none => exact .non
      | _ => exact nomatch h
    | tup ds =>
      cases u with
      | ref a =>
        have h1 : (match g a with
          | some ⟨.type c, _, .seq its _, _⟩ => decide (c = "tuple") && (Nat.ble its.size 1000000 && (Nat.beq ds.length its.toList.length && (ds.zip its.toList).all fun p => repB g n p.1 p.2))
          | _ => false) = true := h
        have k1 : ∀ b ∈ a :: (match g a with
          | some ⟨_, _, .seq its _, _⟩ => its.toList.flatMap (inV g n)
          | _ => []), ∀ o, g b = some o → K.lookup b = some o := k
        cases q : g a with
        | none => rw [q] at h1; cases h1
        | some o =>
          have q2 := k1 a List.mem_cons_self o q
          obtain ⟨oc, od, dt, osl⟩ := o
          rw [q] at h1 k1
          cases oc with
          | type c =>
            cases dt with
            | seq its m =>
              have h2 : (decide (c = "tuple") && (Nat.ble its.size 1000000 && (Nat.beq ds.length its.toList.length && (ds.zip its.toList).all fun p => repB g n p.1 p.2))) = true := h1
              simp only [Bool.and_eq_true] at h2
              obtain ⟨a1, a2, a3, a4⟩ := h2
              have e := of_decide_eq_true a1
              subst e
              exact .tup q2 (repB_l ih (fun b qb => k1 b (List.mem_cons_of_mem _ qb)) (Nat.eq_of_beq_eq_true a3) a4) (Nat.le_of_ble_eq_true a2)
            | _ => cases h1
          | _ => cases dt <;> cases h1
      | _ => exact nomatch h
    | _ => cases u <;> exact nomatch h
/-- what is read: defs, names that stand for no name of the module, built-ins that were brought in, constants -/
structure Hd where
  defs : List (Str × Stmt)
  free : List Str
  blt : List (Str × String)
  cons : List (Str × D)
  cls : List Str := []
  prs : List (Str × Str) := []
  /-- classes with an own __init__: name, field, qualified name, the def -/
  ini : List (Str × Str × Str × Stmt) := []
  /-- classes whose instances isinstance asks -/
  exs : List Str := []
  kis : List (Str × Str × Bool) := []
  kib : List (Str × String × Bool) := []
  /-- the dict of all modules stands where it does -/
  sys : Bool := false
def hdD (d : Str × Stmt) : He.FnD := ⟨(d.1, none), d.1, d.1, defArgs d.2, defBody d.2, defScope d.2⟩
def lkE (es : List DictEntry) (x : Str) : Option Value := (es.find? (·.key.isStr x)).map (·.val)
def codB (g : Addr → Option Obj) (cd : Value) (q : Str) : Bool := match cd with
  | .ref c => (match g c with
    | some ⟨_, _, .fields vs, _⟩ => (match vs.toList with
      | _ :: .str n _ :: _ => n == q
      | _ => false)
    | _ => false)
  | _ => false
/-- a def as the heap has it -/
def defV (g : Addr → Option Obj) (es : List DictEntry) (x : Str) : Bool × He.FnV := match lkE es x with
  | some (.ref f) => (match g f with
    | some ⟨_, _, .func fd, _⟩ => (codB g fd.code x, some (fd.name, fd.qualname, fd.params, fd.body, fd.scope, fd.globals, fd.closure, fd.defaults, fd.builtins))
    | _ => (false, none))
  | _ => (false, none)
def bltB (es : List DictEntry) (x : Str × String) : Bool := match lkE es x.1 with
  | some (.builtin m) => decide (m = x.2)
  | _ => false
def conB (g : Addr → Option Obj) (es : List DictEntry) (c : Str × D) : Bool := match lkE es c.1 with
  | some u => repB g 9 c.2 u
  | none => false
def adV : Value → List Addr
  | .ref a => [a]
  | _ => []
/-- the addresses that the facts lean on -/
def asOf (g : Addr → Option Obj) (es : List DictEntry) : List Addr := mainGlobals :: (es.flatMap fun e => adV e.val ++ ((adV e.val).flatMap fun f => match g f with
  | some ⟨_, _, .func fd, _⟩ => adV fd.code
  | _ => []) ++ inV g 9 e.val)
/-- the addresses of own classes -/
def clsAs1 (g : Addr → Option Obj) (es : List DictEntry) (x : Str) : List Addr := match lkE es x with
  | some (.ref C) => (match g C with
    | some ⟨_, _, .cls cd, _⟩ => C :: cd.ns :: (cd.mro.flatMap fun v => (match v with
      | .ref A => A :: (match g A with
        | some ⟨_, _, .cls cd2, _⟩ => [cd2.ns]
        | _ => [])
      | _ => [])) ++ (match g cd.ns with
        | some ⟨_, _, .dict es2 _, _⟩ => (match lkE es2.toList "__init__" with
          | some (.ref f) => f :: (match g f with
            | some ⟨_, _, .func fd, _⟩ => adV fd.code
            | _ => [])
          | _ => [])
        | _ => [])
    | _ => [])
  | _ => []
def clsAs (g : Addr → Option Obj) (es : List DictEntry) (cls : List Str) : List Addr := cls.flatMap (clsAs1 g es)
/-- an own class without own __init__ over ValueError -/
def xcB (K : PySem.W.Frag) (C : Addr) : Bool := PySem.W.excIn K C PySem.HandSPX.veTail "ValueError.__new__" && (PySem.W.keepIn K (.ref C) && (PySem.W.subIn K (.ref C) (.type "BaseException") == some true && PySem.W.typeIn K (.ref C) == some (.type "type")))
def xcE (K : PySem.W.Frag) (es : List DictEntry) (x : Str) : Bool := match lkE es x with
  | some (.ref C) => xcB K C
  | _ => false
def prE (K : PySem.W.Frag) (es : List DictEntry) (p : Str × Str) : Bool := match lkE es p.1, lkE es p.2 with
  | some u, some (.ref C) => PySem.W.exmOne K u (.ref C) == some true
  | _, _ => false
/-- an own class with an own __init__ over ValueError -/
def xgC (K : PySem.W.Frag) (C : Addr) : Bool := match K.lookup C with
  | some ⟨.type "type", _, .cls cd, sl⟩ => (match cd.mro, sl.toList with
    | .ref C' :: bm, [_, _, _, _, some (.builtin n), _] => C' == C && n == "ValueError.__new__" && !cd.hasDel && cd.hasDict && PySem.HandSPX.refsVE bm
    | _, _ => false)
  | _ => false
def xgB (K : PySem.W.Frag) (C : Addr) (fl : Str) (f : Addr) : Bool := xgC K C && (PySem.W.findIn K (.ref C) "__setattr__" == some (some (.builtin "object.__setattr__")) &&
  (PySem.W.findIn K (.ref C) "__getattribute__" == some (some (.builtin "BaseException.__getattribute__")) && (PySem.W.findIn K (.ref C) "__getattr__" == some none && (PySem.W.findIn K (.ref C) fl == some none &&
  (PySem.W.findIn K (.ref C) "__init__" == some (some (.ref f)) && (PySem.W.typeIn K (.ref f) == some (.type "function") && (PySem.W.keepIn K (.ref C) && (PySem.W.subIn K (.ref C) (.type "BaseException") == some true &&
  (PySem.W.typeIn K (.ref C) == some (.type "type") && (PySem.W.hasDictIn K C && PySem.W.exmOne K (.ref C) (.ref C) == some true))))))))))
/-- a class whose instances isinstance asks -/
def exB (K : PySem.W.Frag) (C : Addr) : Bool := PySem.W.findIn K (.ref C) "__getattribute__" == some (some (.builtin "BaseException.__getattribute__")) && (PySem.W.findIn K (.ref C) "__getattr__" == some none &&
  (PySem.W.subIn K (.ref C) (.type "BaseException") == some true && (PySem.W.hasDictIn K C && (PySem.W.findIn K (.ref C) "__class__" == some (some (.builtin "object.__class__")) &&
  (PySem.W.specialIn K (.builtin "object.__class__") "__get__" == some (some (.builtin "getset_descriptor.__get__")) && (PySem.W.takesIn K (.builtin "object.__class__") == some true && PySem.W.mroIn K C (.type "object") == some true))))))
def exE (K : PySem.W.Frag) (es : List DictEntry) (x : Str) : Bool := match lkE es x with
  | some (.ref C) => exB K C
  | _ => false
def kisE (K : PySem.W.Frag) (es : List DictEntry) (p : Str × Str × Bool) : Bool := match lkE es p.1, lkE es p.2.1 with
  | some u, some (.ref C) => PySem.W.kitOne K u (.ref C) == some p.2.2
  | _, _ => false
def kibE (K : PySem.W.Frag) (es : List DictEntry) (p : Str × String × Bool) : Bool := match lkE es p.1 with
  | some u => PySem.W.kitOne K u (.type p.2.1) == some p.2.2
  | _ => false
/-- the __init__ of a class as the heap has it -/
def iniV (K : PySem.W.Frag) (es : List DictEntry) (i : Str × Str × Str × Stmt) : Bool × He.FnV := match lkE es i.1 with
  | some (.ref C) => (match PySem.W.findIn K (.ref C) "__init__" with
    | some (some (.ref f)) => (match K.lookup f with
      | some ⟨_, _, .func fd, _⟩ => (xgB K C i.2.1 f && PySem.W.codeIn K fd.code i.2.2.1, some (fd.name, fd.qualname, fd.params, fd.body, fd.scope, fd.globals, fd.closure, fd.defaults, fd.builtins))
      | _ => (false, none))
    | _ => (false, none))
  | _ => (false, none)
def iniD (i : Str × Str × Str × Stmt) : He.FnV := some (("__init__" : Str), i.2.2.1, defArgs i.2.2.2, .stmts (defBody i.2.2.2), defScope i.2.2.2, mainGlobals, [], .none, builtinsNs)
abbrev HdA : Type := Bool × List (Bool × He.FnV)
def sysB (K : PySem.W.Frag) : Bool := match K.lookup sysModules with
  | some ⟨.type c, _, _, _⟩ => decide (c = "dict")
  | _ => false
def Hd.obsK (z : Hd) (g : Addr → Option Obj) (es : List DictEntry) (K : PySem.W.Frag) : HdA :=
  (!es.any (·.refKey) && (z.free.all (fun x => (lkE es x).isNone) && (z.blt.all (bltB es) && (z.cons.all (conB g es) && (z.cls.all (xcE K es) && (z.prs.all (prE K es) && (z.exs.all (exE K es) && (z.kis.all (kisE K es) && (z.kib.all (kibE K es) && (!z.sys || sysB K))))))))), (z.defs.map fun d => defV g es d.1) ++ z.ini.map (iniV K es))
def Hd.obsE (z : Hd) (g : Addr → Option Obj) (es : List DictEntry) : HdA := z.obsK g es (He.frG g (sysModules :: clsAs g es (z.cls ++ z.exs) ++ asOf g es))
def Hd.obsG (z : Hd) (g : Addr → Option Obj) : HdA := match g mainGlobals with
  | some ⟨_, _, .dict es _, _⟩ => z.obsE g es.toList
  | _ => (false, [])
def Hd.val (z : Hd) : HdA := (true, (z.defs.map fun d => (true, (hdD d).val)) ++ z.ini.map fun i => (true, iniD i))
/-- a def stands in the module -/
def DefK (K : PySem.W.Frag) (d : Str × Stmt) : Prop := ∃ (f : Addr) (oc : Value) (od : Option Addr) (osl : Array (Option Value)) (kV doc pm : Value) (an : Option Addr) (cdv ct : Value), PySem.W.nsIn K mainGlobals d.1 = some (some (.ref f)) ∧
  K.lookup f = some ⟨oc, od, .func (PySem.W.fnOf d.1 d.1 (defArgs d.2) (defBody d.2) (defScope d.2) .none kV doc pm an cdv ct), osl⟩ ∧ PySem.W.codeIn K cdv d.1 = true
structure Hd.Says (z : Hd) (K : PySem.W.Frag) : Prop where
  d : ∀ d ∈ z.defs, DefK K d
  f : ∀ x ∈ z.free, PySem.W.nsIn K mainGlobals x = some none
  b : ∀ x ∈ z.blt, PySem.W.nsIn K mainGlobals x.1 = some (some (.builtin x.2))
  c : ∀ c ∈ z.cons, ∃ u, PySem.W.nsIn K mainGlobals c.1 = some (some u) ∧ GRep K c.2 u
  x : ∀ x ∈ z.cls, ∃ C, PySem.W.nsIn K mainGlobals x = some (some (.ref C)) ∧ xcB K C = true
  p : ∀ p ∈ z.prs, ∃ u C, PySem.W.nsIn K mainGlobals p.1 = some (some u) ∧ PySem.W.nsIn K mainGlobals p.2 = some (some (.ref C)) ∧ PySem.W.exmOne K u (.ref C) = some true
  i : ∀ i ∈ z.ini, ∃ (C f : Addr) (oc : Value) (od : Option Addr) (osl : Array (Option Value)) (kV doc pm : Value) (an : Option Addr) (cdv ct : Value), PySem.W.nsIn K mainGlobals i.1 = some (some (.ref C)) ∧ xgB K C i.2.1 f = true ∧
    K.lookup f = some ⟨oc, od, .func (PySem.W.fnOf "__init__" i.2.2.1 (defArgs i.2.2.2) (defBody i.2.2.2) (defScope i.2.2.2) .none kV doc pm an cdv ct), osl⟩ ∧ PySem.W.codeIn K cdv i.2.2.1 = true
  e : ∀ x ∈ z.exs, ∃ C, PySem.W.nsIn K mainGlobals x = some (some (.ref C)) ∧ exB K C = true
  ki : ∀ p ∈ z.kis, ∃ u C, PySem.W.nsIn K mainGlobals p.1 = some (some u) ∧ PySem.W.nsIn K mainGlobals p.2.1 = some (some (.ref C)) ∧ PySem.W.kitOne K u (.ref C) = some p.2.2
  sy : z.sys = true → ∃ o, K.lookup sysModules = some o ∧ o.cls = .type "dict"
  kb : ∀ p ∈ z.kib, ∃ u, PySem.W.nsIn K mainGlobals p.1 = some (some u) ∧ PySem.W.kitOne K u (.type p.2.1) = some p.2.2
theorem frG_has {g : Addr → Option Obj} {a : Addr} {o : Obj} (h : g a = some o) : ∀ {as : List Addr}, a ∈ as → (He.frG g as).lookup a = some o
  | [], q => nomatch q
  | b :: r, q => by
    unfold He.frG
    rw [List.filterMap_cons]
    by_cases e : a = b
    · subst e
      rw [h]
      show List.lookup a ((a, o) :: _) = some o
      rw [List.lookup_cons]
      simp
    · have q2 : a ∈ r := (List.mem_cons.mp q).resolve_left e
      have ih := frG_has h q2
      cases gb : g b with
      | none => exact ih
      | some ob =>
        show List.lookup a ((b, ob) :: _) = some o
        rw [List.lookup_cons]
        have nb : (a == b) = false := by simpa using e
        rw [nb]
        exact ih
theorem map_same {α β : Type} {f g : α → β} : ∀ {l : List α}, l.map f = l.map g → ∀ x ∈ l, f x = g x
  | [], _, _, h => nomatch h
  | y :: r, e, x, h => by
    rw [List.map_cons, List.map_cons, List.cons.injEq] at e
    rcases List.mem_cons.mp h with rfl | h
    · exact e.1
    · exact map_same e.2 x h
theorem Hd.of_obs {z : Hd} {g : Addr → Option Obj} (e : z.obsG g = z.val) : ∃ as : List Addr, z.Says (He.frG g as) := by
  unfold Hd.obsG at e
  split at e
  · rename_i oc od es en osl hm
    refine ⟨sysModules :: clsAs g es.toList (z.cls ++ z.exs) ++ asOf g es.toList, ?_⟩
    unfold Hd.obsE Hd.val at e
    generalize hK : He.frG g (sysModules :: clsAs g es.toList (z.cls ++ z.exs) ++ asOf g es.toList) = K at e ⊢
    unfold Hd.obsK at e
    have has : ∀ {a : Addr} {o : Obj}, a ∈ asOf g es.toList → g a = some o → K.lookup a = some o := fun h q => by rw [← hK]; exact frG_has q (List.mem_append_right _ h)
    have lm : K.lookup mainGlobals = some ⟨oc, od, .dict es en, osl⟩ := has (List.mem_cons_self) hm
    obtain ⟨e1, e2⟩ := Prod.mk.inj e
    obtain ⟨e2, e4⟩ := List.append_inj e2 (by simp)
    simp only [Bool.and_eq_true, Bool.not_eq_true'] at e1
    obtain ⟨r1, r2, r3, r4, r5, r6, r7, r8, r9, r10⟩ := e1
    have ns : ∀ x : Str, PySem.W.nsIn K mainGlobals x = some (lkE es.toList x) := fun x => by
      unfold PySem.W.nsIn lkE
      rw [lm]
      simp only
      cases q : es.toList.find? (·.key.isStr x) with
      | some v => rfl
      | none =>
        simp only
        rw [r1]
        rfl
    have inE : ∀ {x : Str} {u : Value}, lkE es.toList x = some u → ∃ en ∈ es.toList, en.val = u := fun {x u} h => by
      unfold lkE at h
      obtain ⟨en, h1, h2⟩ := Option.map_eq_some_iff.mp h
      exact ⟨en, List.mem_of_find?_eq_some h1, h2⟩
    refine ⟨fun d hd => ?_, fun x hx => ?_, fun x hx => ?_, fun c hc => ?_, fun x hx => ?_, fun p hp => ?_, fun i hi => ?_, fun x hx => ?_, fun p hp => ?_, fun hs => ?_, fun p hp => ?_⟩
    · have e3 := map_same e2 d hd
      unfold defV at e3
      split at e3
      · rename_i f hf
        obtain ⟨en, me, ev⟩ := inE hf
        split at e3
        · rename_i oc2 od2 fd osl2 gf
          obtain ⟨n1, n2, n3, n4, n5, n6, n7, n8, n9, n10, n11, n12, n13, n14, n15⟩ := fd
          obtain ⟨c1, c2⟩ := Prod.mk.inj e3
          have c3 : (some (n1, n2, n3, n4, n5, n6, n7, n8, n15) : He.FnV) = some (d.1, d.1, defArgs d.2, .stmts (defBody d.2), defScope d.2, mainGlobals, [], .none, builtinsNs) := c2
          simp only [Option.some.injEq, Prod.mk.injEq] at c3
          obtain ⟨h1, h2, h3, h4, h5, h6, h7, h8, h9⟩ := c3
          subst h1 h2 h3 h4 h5 h6 h7 h8 h9
          have mf : f ∈ asOf g es.toList := List.mem_cons_of_mem _ (List.mem_flatMap.mpr ⟨en, me, by rw [ev]; simp [adV]⟩)
          refine ⟨f, oc2, od2, osl2, n9, n10, n11, n12, n13, n14, by rw [ns, hf], has mf gf, ?_⟩
          have c4 : codB g n13 d.1 = true := c1
          unfold codB at c4
          unfold PySem.W.codeIn
          cases n13 with
          | ref c =>
            simp only at c4 ⊢
            have mc : c ∈ asOf g es.toList := List.mem_cons_of_mem _ (List.mem_flatMap.mpr ⟨en, me, by rw [ev]; simp [adV, gf]⟩)
            cases gc : g c with
            | none => rw [gc] at c4; cases c4
            | some o =>
              rw [gc] at c4
              rw [has mc gc]
              exact c4
          | _ => cases c4
        · exact absurd (Prod.mk.inj e3).1 (by decide)
      · exact absurd (Prod.mk.inj e3).1 (by decide)
    · have q := List.all_eq_true.mp r2 x hx
      rw [ns, Option.isNone_iff_eq_none.mp q]
    · have q := List.all_eq_true.mp r3 x hx
      unfold bltB at q
      split at q
      · rename_i m hm2
        rw [ns, hm2, of_decide_eq_true q]
      · cases q
    · have q := List.all_eq_true.mp r4 c hc
      unfold conB at q
      split at q
      · rename_i u hu
        obtain ⟨en, me, ev⟩ := inE hu
        refine ⟨u, by rw [ns, hu], repB_ok (g := g) (fun a ha o ho => has (List.mem_cons_of_mem _ (List.mem_flatMap.mpr ⟨en, me, by rw [ev]; exact List.mem_append.mpr (.inr ha)⟩)) ho) q⟩
      · cases q
    · have q := List.all_eq_true.mp r5 x hx
      unfold xcE at q
      split at q
      · rename_i C hC
        exact ⟨C, by rw [ns, hC], q⟩
      · cases q
    · have q := List.all_eq_true.mp r6 p hp
      unfold prE at q
      split at q
      · rename_i u C h1 h2
        exact ⟨u, C, by rw [ns, h1], by rw [ns, h2], beq_iff_eq.mp q⟩
      · cases q
    · have e3 := map_same e4 i hi
      unfold iniV at e3
      split at e3
      · rename_i C hC
        split at e3
        · rename_i f hf
          split at e3
          · rename_i oc2 od2 fd osl2 gf
            obtain ⟨n1, n2, n3, n4, n5, n6, n7, n8, n9, n10, n11, n12, n13, n14, n15⟩ := fd
            obtain ⟨c1, c2⟩ := Prod.mk.inj e3
            have c3 : (some (n1, n2, n3, n4, n5, n6, n7, n8, n15) : He.FnV) = some (("__init__" : Str), i.2.2.1, defArgs i.2.2.2, .stmts (defBody i.2.2.2), defScope i.2.2.2, mainGlobals, [], .none, builtinsNs) := c2
            simp only [Option.some.injEq, Prod.mk.injEq] at c3
            obtain ⟨h1, h2, h3, h4, h5, h6, h7, h8, h9⟩ := c3
            subst h1 h2 h3 h4 h5 h6 h7 h8 h9
            rw [Bool.and_eq_true] at c1
            exact ⟨C, f, oc2, od2, osl2, n9, n10, n11, n12, n13, n14, by rw [ns, hC], c1.1, gf, c1.2⟩
          · exact absurd (Prod.mk.inj e3).1 (by decide)
        · exact absurd (Prod.mk.inj e3).1 (by decide)
      · exact absurd (Prod.mk.inj e3).1 (by decide)
    · have q := List.all_eq_true.mp r7 x hx
      unfold exE at q
      split at q
      · rename_i C hC
        exact ⟨C, by rw [ns, hC], q⟩
      · cases q
    · have q := List.all_eq_true.mp r8 p hp
      unfold kisE at q
      split at q
      · rename_i u C h1 h2
        exact ⟨u, C, by rw [ns, h1], by rw [ns, h2], beq_iff_eq.mp q⟩
      · cases q
    · rw [hs, Bool.not_true, Bool.false_or] at r10
      unfold sysB at r10
      split at r10
      · rename_i c _ _ _ hk
        exact ⟨_, hk, by rw [of_decide_eq_true r10]⟩
      · cases r10
    · have q := List.all_eq_true.mp r9 p hp
      unfold kibE at q
      split at q
      · rename_i u h1
        exact ⟨u, by rw [ns, h1], beq_iff_eq.mp q⟩
      · cases q
  · exact absurd (Prod.mk.inj e).1 (by decide)
def Hd.hook (z : Hd) : PySem.W.Hook where
  α := HdA
  obs := fun s => z.obsG s.heap.get?
  val := fun _ => z.val
  says := fun _ h => ∃ K : PySem.W.Frag, K.In h ∧ z.Says K
  of := fun _ _ e => let ⟨_, c⟩ := Hd.of_obs e; ⟨_, He.frG_in, c⟩
  keeps := fun _ _ _ ⟨K, hK, c⟩ k => ⟨K, PySem.W.Frag.In.keeps hK k, c⟩
theorem Hd.obs_eq {z : Hd} {g : Addr → Option Obj} {s : Shared} (h : ∀ a, g a = s.heap.get? a) : z.obsG g = z.hook.obs s := by
  have e : g = s.heap.get? := funext h
  rw [e] <;> rfl
section
variable {z : Hd} {K : PySem.W.Frag} {h : Heap} {mg : Str → Option Value}
theorem Hd.Says.df (X : K.In h) (G : h.Ns mainGlobals mg) (c : z.Says K) (i : Nat) {x : Str} {st : Stmt} (e : z.defs[i]? = some (x, st) := by rfl) : Df K mg x st := by
  obtain ⟨f, oc, od, osl, kV, doc, pm, an, cdv, ct, h1, l, cd⟩ := c.d _ (List.mem_of_getElem? e)
  exact ⟨_, _, fun_mk (st := st) l cd (by unfold PySem.W.keepIn; simp only at l ⊢; rw [l]), PySem.W.mg_of X G h1⟩
theorem Hd.Says.fr (X : K.In h) (G : h.Ns mainGlobals mg) (c : z.Says K) (i : Nat) {x : Str} (e : z.free[i]? = some x := by rfl) : mg x = none :=
  PySem.W.mg_none_of X G (c.f _ (List.mem_of_getElem? e))
theorem Hd.Says.bf (X : K.In h) (G : h.Ns mainGlobals mg) (c : z.Says K) (i : Nat) {x : Str} {m : String} (e : z.blt[i]? = some (x, m) := by rfl) : mg x = some (.builtin m) :=
  PySem.W.mg_of X G (c.b _ (List.mem_of_getElem? e))
theorem Hd.Says.gc (X : K.In h) (G : h.Ns mainGlobals mg) (c : z.Says K) (i : Nat) {x : Str} {d : D} (e : z.cons[i]? = some (x, d) := by rfl) : GC K mg x d := by
  obtain ⟨u, h1, h2⟩ := c.c _ (List.mem_of_getElem? e)
  exact gc_of X G h1 h2
end
theorem g_walkE {l : PySem.W.OpenLaw} {n k : Nat} {q : Program} {loose : List Str} {XP : (Str → Option Value) → Heap → Prop} {YP : World → Heap → Prop} {d : DefRec} {x y : Str} {sem : Sem} (hn : l.most = some n) (hn2 : n ≤ sizeLine) (hdf : d.params.defaults = [])
    (hr : Room k callerA) (hx : d.name = x)
    (F : ∀ (w : World) (mg : Str → Option Value) (h : Heap), YP w h → h.Ns mainGlobals mg → ∃ K : PySem.W.Frag, K.In h ∧ ∀ base : Heap, K.In base → base.Ns mainGlobals mg → Ok l.prog w K mg base k x [y] sem)
    (hs : ∀ ns : List Int, ns.length ≤ n → sem [.val (scrD ns)] [] fun r _ => r = .bl true) : PySem.W.WalkO q loose XP YP l.row.toRowW d [] (fun f vs => PySem.call f vs) := by
  refine Att.attach_call hn hdf fun w s0 s1 mg mb fa o pm cd doc a vs ns G Y ho hd hcd hmg hobj hints hlen hg => ?_
  obtain ⟨K, KX, hF⟩ := F w mg _ Y G.T.g
  subst hx
  obtain ⟨f, fd, h1, h2, h3, h4, h5, oc, od, osl, lk⟩ := hF _ KX G.T.g
  cases hmg.symm.trans h1
  refine g_law (x := y) (fd := fd) (sp := spD K 1 sem) (CX := CX0) KX G.T.g G.T.b G.T.builtins G.T.nolimit hg hobj hints (Nat.le_trans hlen hn2) hr (fun base h h' => ?_) (fun u => ?_) (fun H hO hS => ?_) fun H e s' z => z
  · obtain ⟨f2, fd2, k1, k2, k3, k4, k5, oc2, od2, osl2, lk2⟩ := hF base h h'
    cases hmg.symm.trans k1
    rw [lk] at lk2
    cases lk2
    exact k5
  · exact h3 s1 [u] KX rfl
  · exact ⟨rfl, H, none, [], [.val (scrD ns)], _, .val (.scr hS (scr_rep ns)) .nil, ⟨Same.refl _, fun _ z => nomatch z⟩, hs ns hlen, fun v H' F' d T' _ _ r q => by subst q; cases r; rfl⟩
end L2.G

namespace L2.G
open PySem PySem.Spec PyProof.Rows
/-! sorted(set(xs)), xs a list of tuples of ints of either sign -/
def TupH (h : Heap) (p : Addr × List Int) : Prop := ∃ o xs n, h.get? p.1 = some o ∧ o.cls = .type "tuple" ∧ o.data = .seq xs n ∧ Vals (p.2.map V.int) xs.toList
theorem TupH.keep {h h' : Heap} {p : Addr × List Int} (k : ∀ b o, h.get? b = some o → h'.get? b = some o) : TupH h p → TupH h' p :=
  fun ⟨o, xs, n, g, r⟩ => ⟨o, xs, n, k _ _ g, r⟩
theorem TupH.first {h : Heap} : ∀ (L : List (Addr × List Int)), (∀ p ∈ L, TupH h p ∧ p.2 ≠ []) → ∃ fs, PyProof.Rows.TupsOf h noS (L.map fun p => Value.ref p.1) fs
  | [], _ => ⟨[], .nil⟩
  | p :: L, q => by
    obtain ⟨fs, ih⟩ := TupH.first L fun r hr => q r (List.mem_cons_of_mem _ hr)
    obtain ⟨⟨o, xs, n, g, c, d, v⟩, h2⟩ := q p List.mem_cons_self
    obtain ⟨m, r, er⟩ := List.exists_cons_of_ne_nil h2
    rw [er] at v
    obtain ⟨u, us, ex⟩ : ∃ u us, xs.toList = u :: us := by
      cases z : xs.toList with
      | nil => rw [z] at v; cases v
      | cons u us => exact ⟨u, us, rfl⟩
    rw [ex] at v
    have hu : ∃ t, u = .int m t := by
      cases v with
      | cons r _ => exact r
    obtain ⟨t, rfl⟩ := hu
    have g0 : xs[0]? = some (.int m t) := by rw [← Array.getElem?_toList, ex]; rfl
    exact ⟨_, .cons ⟨p.1, o, xs, n, rfl, g, c, d, g0, fun _ => ⟨m, t, rfl⟩, fun z => nomatch z⟩ ih⟩
def dedL : List (List Int) → List (List Int)
  | [] => []
  | x :: r => if x ∈ r then dedL r else x :: dedL r
def stS : Option (List (List Int)) → PD | some nss => some (TupsD nss, .lst ((isort (dedL nss)).map tI)) | none => none
def fSortS : List D → PD | [.lst xs] => stS (tups? xs) | _ => none
theorem fSortS_lst {xs : List D} : fSortS [.lst xs] = stS (tups? xs) := rfl
theorem stS_some {n : List (List Int)} : stS (some n) = some (TupsD n, .lst ((isort (dedL n)).map tI)) := rfl
section
variable {X : Cx} {e : Expr} {fr : dA} {p p2 pos pos2 : Pos} {es : List Expr}
end
/-! less than, for ints and for tuples of ints -/
def ltR : Option (List Int) → Option (List Int) → PD | some a, some b => some (True, .bl (HT.lexLt a b)) | _, _ => none
def fLtU : D → D → PD
  | .int i, .int j => some (True, .bl (decide (i < j)))
  | .tup xs, .tup ys => ltR (nums? xs) (nums? ys)
  | _, _ => none
theorem fLtU_int {i j : Int} : fLtU (.int i) (.int j) = some (True, .bl (decide (i < j))) := rfl
theorem fLtU_tup {xs ys : List D} : fLtU (.tup xs) (.tup ys) = ltR (nums? xs) (nums? ys) := rfl
theorem ltR_some {a b : List Int} : ltR (some a) (some b) = some (True, .bl (HT.lexLt a b)) := rfl
section
variable {X : Cx} {a b : Expr} {fa fb : dE} {pos : Pos}
end
end L2.G

namespace L2.G
open PySem PySem.Spec PyProof.Rows
/-! {"a": 1, ..}[x]: a displayed dict of texts to ints, and what stands at x -/
def lkL (kvs : List (Str × Int)) (x : Str) : Option Int := kvs.foldl (fun o c => if x = c.1 then some c.2 else o) none
def dctR (o : Option Int) (T : Tk) (k : KD) : Prop := match o with | some i => k (.int i) T | none => False
def dctK (kvs : List (Str × Int)) (d : D) (T : Tk) (k : KD) : Prop := match d with | .str x => dctR (lkL kvs x) T k | _ => False
def dDctIx (kvs : List (Str × Int)) (fe : dE) : dE := fun ρ T k => fe ρ T fun d T1 => dctK kvs d T1 k
theorem h_dctIx {kvs : List (Str × Int)} {fe : dE} {ρ : En} {T : Tk} {k : KD} : dDctIx kvs fe ρ T k = fe ρ T fun d T1 => dctK kvs d T1 k := propext Iff.rfl
end L2.G

namespace L2.G
open PySem PySem.Spec PyProof.Rows
/-! defs that may raise: a def's reading takes r, what is wished of an exception -/
/-- an exception: the name of its class, what it was given -/
structure ExD where
  nm : Str
  arg : Option (Str × D)
abbrev RK := ExD → Tk → Prop
/-- in a body: with the slots -/
abbrev RX := ExD → En → Tk → Prop
def RepE (K : PySem.W.Frag) (mg : Str → Option Value) (F H : Hp) (e : ExD) (cls : Value) (d : Option Addr) : Prop :=
  mg e.nm = some cls ∧ match e.arg with
    | none => d = none
    | some (fl, x) => ∃ dd v, d = some dd ∧ H dd = some (.xd [(fl, v)]) ∧ Rep K F x v
def FinX (K : PySem.W.Frag) (mg : Str → Option Value) (t : Option Addr) (F H : Hp) (r : RK) (E : XK) : Prop := ∀ e T' F' H' cls d, Wt K T' t F' H' → Grow t F H F' H' → RepE K mg F' H' e cls d → r e T' → E cls d H'
abbrev SemX := RK → Sem
def spX (K : PySem.W.Frag) (mg : Str → Option Value) (n : Nat) (sem : SemX) : Sp := fun vs H Q E => vs.length = n ∧ ∃ F t T as k r, ArgL K t F as vs ∧ Wt K T t F H ∧ sem r as T k ∧ Fin K t F H k Q ∧ FinX K mg t F H r E
def OkX (P : Program) (w : World) (K : PySem.W.Frag) (mg : Str → Option Value) (base : Heap) (n : Nat) (x : Str) (ps : List Str) (sem : SemX) : Prop :=
  ∃ f fd, mg x = some (.ref f) ∧ PySem.W.keepIn K (.ref f) = true ∧ Binds K fd ps [] ∧ (∀ (s : Shared) (ws : List Value), K.In s.heap → ws.length = ps.length → BindsTo s fd ⟨[], ps.zip ws⟩ (ps.zip ws)) ∧ GFn P w K mg base (L2.CX P w) n f fd ps (spX K mg ps.length sem) ∧ ∃ oc od osl, K.lookup f = some ⟨oc, od, .func fd, osl⟩
theorem OkX.mono {P : Program} {w : World} {K : PySem.W.Frag} {mg : Str → Option Value} {base : Heap} {m n : Nat} {x : Str} {ps : List Str} {sem : SemX} (h : OkX P w K mg base m x ps sem) (l : m ≤ n) : OkX P w K mg base n x ps sem :=
  let ⟨f, fd, h1, h2, h3, h4, h5, h6⟩ := h; ⟨f, fd, h1, h2, h3, h4, h5.mono l, h6⟩
theorem OkX.imp {P : Program} {w : World} {K : PySem.W.Frag} {mg : Str → Option Value} {base : Heap} {n : Nat} {x : Str} {ps : List Str} {sem sem' : SemX} (h : OkX P w K mg base n x ps sem) (i : ∀ r as T k, sem' r as T k → sem r as T k) : OkX P w K mg base n x ps sem' :=
  let ⟨f, fd, h1, h2, h3, h4, h5, h6⟩ := h; ⟨f, fd, h1, h2, h3, h4, h5.imp (fun vs H Q E ⟨q1, F, t, T, as, k, r, a, b, c, d, e⟩ => ⟨q1, F, t, T, as, k, r, a, b, i _ _ _ _ c, d, e⟩), h6⟩

/-! in a body -/
structure Ct where
  t : Option Addr
  F0 : Hp
  H0 : Hp
  F1 : Hp
def tDX (K : PySem.W.Frag) (c : Ct) (f : dE) : TE := fun σ H Q => ∃ ρ T F k, Ws K ρ T c.t σ c.F0 c.H0 F H ∧ Same c.F1 F ∧ f ρ T k ∧ Fin K c.t F H k Q
abbrev PEx (X : Cx) (c : Ct) (e : Expr) (f : dE) : Prop := PE X e (tDX X.K c f)
def tDXS (K : PySem.W.Frag) (c : Ct) (f : dS) : TS := fun E σ H => ∃ ρ T F k, Ws K ρ T c.t σ c.F0 c.H0 F H ∧ Same c.F1 F ∧ f k ρ T ∧ FinE K c.t c.F0 c.H0 F k E
abbrev PSx (X : Cx) (c : Ct) (st : Stmt) (f : dS) : Prop := PS X st (tDXS X.K c f)
abbrev PSsx (X : Cx) (c : Ct) (st : List Stmt) (f : dS) : Prop := PSs X st (tDXS X.K c f)
/-- what r wishes is what W wishes -/
def Lk (X : Cx) (c : Ct) (r : RX) (W : WX) : Prop := ∀ e ρ T F H cls d σ, Ws X.K ρ T c.t σ c.F0 c.H0 F H → Same c.F1 F → RepE X.K X.mg F H e cls d → r e ρ T → W cls d σ H
section
variable {X : Cx} {c : Ct} {e : Expr} {fe fa fb : dE} {st : Stmt} {rest : List Stmt} {f g : dS} {pos : Pos} {W : WX} {r : RX}
theorem x_of (h : PEd X e fe) : PEx X c e fe := pe_imp h fun _ _ _ ⟨ρ, T, F, k, w, _, h, f⟩ => ⟨ρ, T, c.t, F, k, w.w, h, f⟩
theorem sx_of (h : PSd X st f) : PSx X c st f := ps_imp h fun _ _ _ ⟨ρ, T, F, k, w, _, h, fe⟩ => ⟨ρ, T, c.t, c.F0, c.H0, F, k, w, h, fe⟩
theorem ssx_of (h : PSsd X rest f) : PSsx X c rest f := pss_imp h fun _ _ _ ⟨ρ, T, F, k, w, _, h, fe⟩ => ⟨ρ, T, c.t, c.F0, c.H0, F, k, w, h, fe⟩
theorem ssx_cons (h1 : PSx X c st f) (h2 : PSsx X c rest g) : PSsx X c (st :: rest) (sSeq f g) := by
  refine pss_imp (pss_cons h1 h2) fun E σ H h => ?_
  obtain ⟨ρ, T, F, k, w, s, h, fe⟩ := h
  exact ⟨ρ, T, F, _, w, s, h, ⟨fun ρ' T' σ' F' H' w' s' h' => ⟨ρ', T', F', k, w', s.trans s', h', fe.to s'⟩, fe.rt, fe.bk, fe.ct⟩⟩
theorem ssx_one (h1 : PSx X c st f) : PSsx X c [st] f := pss_one h1
theorem sx_ret (he : PEx X c e fe) : PSx X c (.Return (some e) pos) (sRet fe) := by
  refine ps_imp (ps_ret he) fun E σ H h => ?_
  obtain ⟨ρ, T, F, k, w, s, h, fe⟩ := h
  exact ⟨ρ, T, F, _, w, s, h, fun v H1 F1 d T1 w1 g1 r1 h1 => fe.rt _ _ _ _ _ w1 (w.g.trans g1) r1 h1⟩
theorem sx_expr (he : PEx X c e fe) (hs : swapsWith e none pos.line X.env = pure false := by rfl) : PSx X c (.Expr e pos) (sExpr fe) := by
  refine ps_imp (ps_expr he hs) fun E σ H h => ?_
  obtain ⟨ρ, T, F, k, w, s, h, fe⟩ := h
  exact ⟨ρ, T, F, _, w, s, h, fun v H1 F1 d T1 w1 g1 r1 h1 => fe.nx _ _ _ _ _ (w.grow g1 w1) g1.sub h1⟩
theorem sx_if {cc : Expr} {tc : dT} {a b : List Stmt} (hc : PTd X cc tc) (ha : PSsx X c a f) (hb : PSsx X c b g) : PSx X c (.If cc a b pos) (sIf tc f g) := by
  refine ps_imp (ps_if hc ha hb) fun E σ H h => ?_
  obtain ⟨ρ, T, F, k, w, s, h, fe⟩ := h
  refine ⟨ρ, T, c.t, F, _, w.w, h, fun b H1 F1 T1 w1 g1 h1 => ?_⟩
  cases b with
  | true => exact ⟨ρ, T1, F1, k, w.grow g1 w1, s.trans g1.sub, h1, fe.to g1.sub⟩
  | false => exact ⟨ρ, T1, F1, k, w.grow g1 w1, s.trans g1.sub, h1, fe.to g1.sub⟩
end

/-! calls -/
section
variable {X : Cx} {CX : CXT} {n : Nat} {f : Addr} {fd : FuncData} {ps : List Str} {sp : Sp} {x : Str} {p pos : Pos} {e : Expr} {es : List Expr} {t : TA}
theorem g_runS {σ : L2.St} {E : XK} (G : GFn X.prog X.w X.K X.mg X.base CX n f fd ps sp) (hr : Room n X.A) (hgd : X.A.guards = some []) (hx : PassesAt CX X σ E) {pins : List (Addr × Obj)} {H : Hp} {s : Shared} {Q : VK} {args : Args} {us : List Value} {vs : List V}
    (I : Inv X pins σ H s) (r : Vals vs us) (b : BindsTo s fd args (ps.zip us)) (h : sp vs H Q E) : wpAny (model X.prog X.w) X.A (call (.ref f) args.pos args.kw) (EP X pins σ Q) X.xe s := by
  apply wpAny_call
  apply codeAny_mono (G.go X.A X.stack s H args us vs Q E ⟨hr, hgd⟩ I.env0 b r h)
  intro r s' hq
  match r, hq with
  | .error e, hq => exact hx pins H s e s' I hq
  | .ok (.ret u), hq => exact I.after hq
theorem g_callS {E : L2.St → XK} (G : GFn X.prog X.w X.K X.mg X.base CX n f fd ps sp) (hr : Room n X.A) (hgd : X.A.guards = some []) (hg : Gl X x) (hm : X.mg x = some (.ref f)) (hk : PySem.W.keepIn X.K (.ref f) = true) (hb : Binds X.K fd ps []) (hx : ∀ σ, PassesAt CX X σ (E σ))
    (ha : PA X (e :: es) t) (hd : (x == ("__debug__" : Str)) = false := by decide) (he : starEach (e :: es) X.env = (false, eval e X.env) :: starEach es X.env := by rfl) (hp : (backTo pos (starEach es X.env)).any (·.1) = false := by rfl) :
    PE X (.Call (.Name x p) (e :: es) [] pos) (tCallS sp E t) := by
  constructor
  intro pins s σ H Q I h
  apply wpAny_Call_Name_kw
  apply ld_glob I hg hm _ hd
  apply PySem.W.callWith_K (h₀ := X.base) I.ok.mod.kin hk _ he hp
  apply thn (ha.run pos pins s σ H _ I h)
  rintro us s1 ⟨vs, H1, I1, r, q⟩
  refine ⟨I1.kIn, ?_⟩
  have q : sp vs H1 Q (E σ) := q
  have hl : us.length = ps.length := by rw [← r.length]; exact G.len _ _ _ _ q
  have b := hb s1 us I1.kIn (by rw [List.append_nil]; exact hl)
  rw [List.append_nil] at b
  exact g_runS G hr hgd (hx σ) (args := ⟨us, []⟩) I1 r b q
end
section
variable {X : Cx} {n : Nat} {x : Str} {ps : List Str} {sem : SemX} {p pos : Pos} {e : Expr} {es : List Expr} {kws : List Keyword} {fr : dA} {c : Ct} {r : RX} {W : WX}
/-- a call that may raise -/
def dCallX (n : Nat) (sem : SemX) (r : RX) (fr : dA) : dE := fun ρ T k => fr ρ T fun as T1 => as.length = n ∧ sem (fun e T => r e ρ T) as T1 k
theorem x_call (G : OkX X.prog X.w X.K X.mg X.base n x ps sem) (hr : Room n X.A) (hgd : X.A.guards = some []) (tk : Takes X W) (lk : Lk X c r W) (ha : PAd X (e :: es) fr) (hg : Gl X x := by rfl)
    (hd : (x == ("__debug__" : Str)) = false := by decide) (he : starEach (e :: es) X.env = (false, eval e X.env) :: starEach es X.env := by rfl) (hp : (backTo pos (starEach es X.env)).any (·.1) = false := by rfl) : PEx X c (.Call (.Name x p) (e :: es) [] pos) (dCallX ps.length sem r fr) := by
  obtain ⟨f, fd, h1, h2, h3, _, h5, _⟩ := G
  refine pe_imp (g_callS (E := WE W) h5 hr hgd hg h1 h2 h3 (fun σ => passAt tk σ) ha hd he hp) fun σ H Q h => ?_
  obtain ⟨ρ, T, F, k, w, s, h, f⟩ := h
  refine ⟨ρ, T, c.t, F, _, w.w, h, fun vs H1 F1 as T1 w1 g1 r1 h1 => ?_⟩
  exact ⟨by rw [← r1.len]; exact h1.1, F1, c.t, T1, as, k, _, r1, w1, h1.2, f.then g1, fun e T' F' H' cls d w' g' re hr => lk e ρ T' F' H' cls d σ (w.grow (g1.trans g') w') (s.trans (g1.trans g').sub) re hr⟩
end
/-! defs -/
abbrev CxX (P : Program) (w : World) (K : PySem.W.Frag) (mg : Str → Option Value) (base : Heap) (N : List Str) (x : Str) (st : Stmt) (f : Addr) (cdv : Value) (A : Around) (fs : List Env) (s : Shared) (H : Hp) (E : XK) : Cx :=
  cxOf (L2.CX P w) P w K mg base N x (defScope st) f cdv A fs s H E
def semX (N : List Str) (b : RX → dS) : SemX := fun r => semOf N (b fun e _ T => r e T)
theorem ok_defX {P : Program} {w : World} {K : PySem.W.Frag} {mg : Str → Option Value} {base : Heap} {n : Nat} {x : Str} {st : Stmt} {N ps : List Str} {b : RX → dS} (h : Df K mg x st) (S : FnScope N ps (defScope st))
    (hb1 : ∀ (kV doc pm : Value) (an : Option Addr) (cdv ct : Value) (us : List Value), us.length = ps.length → bindArgs (PySem.W.fnOf x x (defArgs st) (defBody st) (defScope st) .none kV doc pm an cdv ct) ⟨us, []⟩ = pure (ps.zip us))
    (hb2 : ∀ (kV doc pm : Value) (an : Option Addr) (cdv ct : Value) (us : List Value), us.length = ps.length → bindArgs (PySem.W.fnOf x x (defArgs st) (defBody st) (defScope st) .none kV doc pm an cdv ct) ⟨[], ps.zip us⟩ = pure (ps.zip us))
    (body : ∀ (f : Addr) (cdv : Value) (A : Around) (fs : List Env) (s : Shared) (H : Hp) (E : XK), Room n (A.deeper (envOfC x (defScope st) s.heap.objs.size f cdv)) → A.guards = some [] →
      ∀ (c : Ct) (r : RX) (W : WX), Takes (CxX P w K mg base N x st f cdv A fs s H E) W → Lk (CxX P w K mg base N x st f cdv A fs s H E) c r W → PSsx (CxX P w K mg base N x st f cdv A fs s H E) c (defBody st) (b r)) :
    OkX P w K mg base (n + 1) x ps (semX N b) := by
  obtain ⟨f, fd, Fn, hm⟩ := h
  refine ⟨f, fd, hm, Fn.kp, Fn.binds hb1, ?_, ?_, by obtain ⟨oc, od, kV, doc, pm, an, cdv, ct, osl, _, lk, _⟩ := Fn.ex; exact ⟨oc, od, osl, lk⟩⟩
  · obtain ⟨oc, od, kV, doc, pm, an, cdv, ct, osl, rfl, lk, hcd⟩ := Fn.ex
    exact fun s ws _ hl => .of_eq (hb2 kV doc pm an cdv ct ws hl)
  · obtain ⟨oc, od, kV, doc, pm, an, cdv, ct, osl, rfl, lk, hcd⟩ := Fn.ex
    refine gfn_body lk hcd S (fun vs H Q E q => q.1) fun A fs s H vs Q E hr hgd hsp => ?_
    obtain ⟨hl, F, t, T, as, k, r, ar, wt, h, fin, fx⟩ := hsp
    refine ⟨_, body f cdv A fs s H E hr hgd ⟨t, F, H, F⟩ (fun e _ T => r e T) (fun cls d _ H => E cls d H) (takes_of rfl rfl rfl rfl) (fun e ρ T' F' H' cls d σ w' _ re hr => fx e T' F' H' cls d w'.w.wt w'.g re hr), start' N as, T, F, _, ⟨wd_start ar wt, Grow.refl _ _ _, fun i xs l e1 _ => ?_⟩, Same.refl _, h, ?_⟩
    · exact absurd rfl ((argGet (H := H) ar i _ (startGet e1)).2 xs)
    · exact ⟨fun ρ T' σ' F' H' w' _ q => fin .non H' F' .non T' w'.w.wt w'.g .non q, fun v H' F' d T' w' g' r' q => fin v H' F' d T' w' g' r' q, fun _ _ _ _ _ _ _ q => q.elim, fun _ _ _ _ _ _ _ q => q.elim⟩

/-! raise -/
/-- what an own class without own __init__ must say -/
structure Xc0 (K : PySem.W.Frag) (mg : Str → Option Value) (x : Str) (C : Addr) : Prop where
  gC : mg x = some (.ref C)
  ex : PySem.W.excIn K C PySem.HandSPX.veTail "ValueError.__new__" = true
  kC : PySem.W.keepIn K (.ref C) = true
  sb : PySem.W.subIn K (.ref C) (.type "BaseException") = some true
  ty : PySem.W.typeIn K (.ref C) = some (.type "type")
theorem Hd.Says.xc {z : Hd} {K : PySem.W.Frag} {h : Heap} {mg : Str → Option Value} (X : K.In h) (G : h.Ns mainGlobals mg) (c : z.Says K) (i : Nat) {x : Str} (e : z.cls[i]? = some x := by rfl) : ∃ C, Xc0 K mg x C := by
  obtain ⟨C, h1, h2⟩ := c.x _ (List.mem_of_getElem? e)
  unfold xcB at h2
  simp only [Bool.and_eq_true, beq_iff_eq] at h2
  obtain ⟨q1, q2, q3, q4⟩ := h2
  exact ⟨C, PySem.W.mg_of X G h1, q1, q2, q3, q4⟩
theorem Hd.Says.xm {z : Hd} {K : PySem.W.Frag} {h : Heap} {mg : Str → Option Value} (X : K.In h) (G : h.Ns mainGlobals mg) (c : z.Says K) {x : Str} {mt : Str → Option Bool} (hm : ∀ nm, mt nm = some true → (nm, x) ∈ z.prs) :
    ∀ C, mg x = some (.ref C) → ∀ nm cls, mt nm = some true → mg nm = some cls → PySem.W.exmOne K cls (.ref C) = some true := by
  intro C hC nm cls h1 h2
  obtain ⟨u, C', a, b, e⟩ := c.p _ (hm nm h1)
  have z1 := PySem.W.mg_of X G a
  have z2 := PySem.W.mg_of X G b
  simp only at z1 z2
  rw [hC] at z2
  rw [h2] at z1
  cases z1
  cases z2
  exact e
section
variable {X : Cx} {c : Ct} {pos pos2 p : Pos} {W : WX} {r : RX} {x : Str} {C : Addr}
theorem pmk_own0 (q : Xc0 X.K X.mg x C) (hg : Gl X x) (hdb : (x == ("__debug__" : Str)) = false := by decide) : PMk X (.Call (.Name x p) [] [] pos) (fun _ H Q => Q (.ref C) none H) := by
  intro pins s σ H Q I h
  refine wpAny_Call_Name_kw (ld_glob I hg q.gC ?_ hdb)
  refine PySem.W.callWith_K0 I.kIn q.kC ?_
  show wpAny _ _ (call (.ref C) []) _ _ _
  obtain ⟨bm, N, nm, qn, bs, hdct, sn, sub, ab, col, dd, k0, k1, k2, k3, k5, mN, hC, hN, hni, T⟩ := exc_obj I.kIn q.ex
  refine wpAny_call_exc_subT PySem.F.excBase_ValueError T hC hN hni (fun h' e hm => ?_) (by show 0 ≤ sizeLine; omega)
  exact mk_of I hm (raises_own q.sb q.ty) h (I.hok.gone hm.new)
def sRaise0 (x : Str) (r : RX) : dS := fun _ ρ T => r ⟨x, none⟩ ρ T
theorem sx_raise0 (q : Xc0 X.K X.mg x C) (hc : X.calm = true) (tk : Takes X W) (lk : Lk X c r W) (hg : Gl X x := by rfl) (hdb : (x == ("__debug__" : Str)) = false := by decide) : PSx X c (.Raise (some (.Call (.Name x p) [] [] pos)) none pos2) (sRaise0 x r) := by
  refine ps_imp (ps_raise hc tk (pmk_own0 q hg hdb)) fun E σ H h => ?_
  obtain ⟨ρ, T, F, k, w, s, h, fe⟩ := h
  exact lk ⟨x, none⟩ ρ T F H (.ref C) none σ w s ⟨q.gC, rfl⟩ h
end

/-! try .. except X -/
section
variable {X : Cx} {x : Str} {cv : Value} {body suite : List Stmt} {b₀ : Stmt} {np pos pos' : Pos} {b : RX → dS} {s : dS} {mt : Str → Option Bool}
end
/-! a tuple some times -/
section
variable {X : Cx} {a b : Expr} {fa fb : dE} {pos : Pos}
end
end L2.G

set_option maxHeartbeats 2000000
namespace PySem
namespace XgX
open PySem.W PySem.Calls PyProof.Rows PySem.HandSPX
/-! ### the text of __init__ -/
def iA (fl : Str) (p1 p2 : Pos) : Arguments := { posonlyargs := [], args := [{ arg := "self", annotation := none, pos := p1 }, { arg := fl, annotation := none, pos := p2 }], vararg := none, kwonlyargs := [], kw_defaults := [], kwarg := none, defaults := [] }
def iB (fl : Str) (q1 q2 q3 q4 : Pos) : List Stmt := [.Assign [.Attribute (.Name "self" q1) fl q2] (.Name fl q3) q4]
def iS (fl : Str) : Scope := { kind := .function, names := [(PySem.Str.ofString "self", .local), (fl, .local)], isGenerator := false, isCoroutine := false, more := [] }
/-- what the written part says of Low, at C, and of its __init__, at fI -/
structure XgTxt (x qi fl : Str) (K : Frag) (mg : Str → Option Value) (C fI : Addr) : Prop where
  gC : mg x = some (.ref C)
  cls : ∃ nm q N bs bm sn sub ab col dd k0 k1 k2 k3 k5, K.lookup C = some (excClassObj nm q C N bs bm true sn sub ab col dd k0 k1 k2 k3 k5 "ValueError.__new__") ∧ refsVE bm = true
  sa : findIn K (.ref C) "__setattr__" = some (some (.builtin "object.__setattr__"))
  ga : findIn K (.ref C) "__getattribute__" = some (some (.builtin "BaseException.__getattribute__"))
  gg : findIn K (.ref C) "__getattr__" = some none
  hfl : fl = "given" ∨ fl = "index"
  noN : findIn K (.ref C) fl = some none
  iC : findIn K (.ref C) "__init__" = some (some (.ref fI))
  tC : typeIn K (.ref fI) = some (.type "function")
  kC : keepIn K (.ref C) = true
  exC : subIn K (.ref C) (.type "BaseException") = some true
  tyC : typeIn K (.ref C) = some (.type "type")
  hdC : hasDictIn K C = true
  te : exmOne K (.ref C) (.ref C) = some true
  fn : ∃ (oc : Value) (od : Option Addr) (kV doc pm : Value) (an : Option Addr) (cdv ct : Value) (osl : Array (Option Value)) (p1 p2 q1 q2 q3 q4 : Pos),
    K.lookup fI = some ⟨oc, od, .func (fnOf "__init__" qi (iA fl p1 p2) (iB fl q1 q2 q3 q4) (iS fl) .none kV doc pm an cdv ct), osl⟩ ∧ codeIn K cdv qi = true
theorem one_size (v : Value) : [v].length ≤ sizeLine := by
  rw [sizeLine_eq]
  exact (by decide : 1 ≤ 16777216)
theorem ldC {M : Model} {s : Shared} {name : Str} {scope : Scope} {L a : Addr} {cd : Value} {m : Str → Option Value} {x : Str} {pos : Pos} {v : Value} {Q : Value → Shared → Prop} {A : Around} {E : Value → Shared → Prop} (hn : s.heap.Ns L m) (hv : m x = some v) (h : Q v s)
    (hk : scope.kind = .function := by rfl) (hl : (envOfC name scope L a cd).kindOf x = some .local := by rfl) (hd : (x == ("__debug__" : Str)) = false := by decide) :
    wpAny M A (eval (.Name x pos) (envOfC name scope L a cd)) Q E s := wpAny_Name (wpAny_loadName_local hk hl hn hv h) hd
/-- what __init__ leaves of a fresh exception at x -/
structure InitEnd (fl : Str) (h h' : Heap) (x C dx t1 : Addr) (v : Value) : Prop where
  keep : ∀ b o, b ≠ x → h.get? b = some o → h'.get? b = some o
  obj : h'.get? x = some { cls := .ref C, dict := some dx, data := .fields #[.ref t1, .none, .none, .none, .bool false, .none] }
  dbig : h.objs.size ≤ dx
  dne : dx ≠ x
  ns : h'.Ns1 dx (fun y => if y = fl then some v else none)
/-- a made Low -/
structure OwnMade (fl : Str) (h h' : Heap) (e C d : Addr) (v : Value) : Prop where
  keep : ∀ b o, h.get? b = some o → h'.get? b = some o
  new : h.objs.size ≤ e
  obj : ∃ oe vs, h'.get? e = some oe ∧ oe.cls = .ref C ∧ oe.dict = some d ∧ oe.data = .fields vs ∧ vs[1]? = some .none
  dbig : h.objs.size ≤ d
  dne : d ≠ e
  ns : h'.Ns1 d (fun y => if y = fl then some v else none)
section
variable {prog : Program} {w : World} {A : Around} {E : Value → Shared → Prop} {R : Result → Shared → Prop} {s : Shared} {K : Frag} {mg : Str → Option Value} {nx qi fl : Str} {C fI : Addr}
theorem low_init (T : XgTxt nx qi fl K mg C fI) {x t0 : Addr} {v : Value} (X : K.In s.heap) (hlim : s.heap.NoLimit) (hx : s.heap.get? x = some (excO C t0)) (hnx : K.lookup x = none) (hroom : A.depth < recursionLimit)
    (hq : ∀ h' tk dx, InitEnd fl s.heap h' x C dx t0 v → R (.ok (.ret .none)) { s with heap := h', toks := tk }) :
    codeAny (model prog w) A (.call (.ref fI) ⟨[.ref x, v], []⟩) R s := by
  obtain ⟨oc, od, kV, doc, pm, an, cdv, ct, osl, p1, p2, q1, q2, q3, q4, ho, hcd⟩ := T.fn
  obtain ⟨nm, q, N, bs, bm, sn, sub, ab, col, dd, k0, k1, k2, k3, k5, hC, hbm⟩ := T.cls
  have hcl : clsIn K C = some { name := nm, bases := bs, mro := .ref C :: bm, ns := N, qualname := q, hasDict := true, slotNames := sn, subclasses := sub, abstract := ab, collection := col, hasDel := false } := by unfold clsIn; rw [hC] <;> rfl
  have hfl := T.hfl
  rcases hfl with rfl | rfl
  · refine Att.call_fn (binds := [("self", .ref x), ("given", v)]) X hlim ho hcd hroom (BindsTo.of_eq (by first | rfl | with_unfolding_all rfl)) (by first | rfl | decide | with_unfolding_all rfl) (fun s₁ IC => ?_) rfl rfl rfl
    obtain ⟨h₁, tk₁, rfl⟩ := IC.toInCall.same
    have k : ∀ b o, s.heap.get? b = some o → h₁.get? b = some o := IC.toInCall.keep
    have hn := IC.toInCall.ns
    have hxL : s.heap.objs.size ≠ x := Nat.ne_of_gt (Heap.lt_size hx)
    have X₁ : K.In h₁ := X.keeps k
    have hx₁ := k _ _ hx
    -- self.by = by
    show wpAny _ _ (execs _ _) _ _ _
    refine wpAny_execs_cons (plainObj_wpAny_Assign_Attribute ?_)
    refine ldC (v := v) hn (by first | rfl | with_unfolding_all rfl | kernel_rfl) (ldC (v := .ref x) hn (by first | rfl | with_unfolding_all rfl | kernel_rfl) ?_)
    refine set_plain X₁ (ox := excO C t0) (od := none) ⟨hx₁, rfl, rfl, trivial⟩ T.sa ?_
    refine exc_osa X₁ hx₁ hcl (show refsVE (.ref C :: bm) = true from hbm) rfl T.noN (fun h₃ tk₃ dx k₃ dn dne hx₃ hn₃ => ?_)
    show wpAny _ _ (execs _ _) _ _ _
    have z : s.heap.objs.size < h₁.objs.size := hn.lt
    exact wpAny_execs_nil (hq h₃ tk₃ dx ⟨fun b o hb e => k₃ b o hb (k b o e), hx₃, Nat.le_of_lt (Nat.lt_of_lt_of_le z dn), dne, hn₃⟩)
  · refine Att.call_fn (binds := [("self", .ref x), ("index", v)]) X hlim ho hcd hroom (BindsTo.of_eq (by first | rfl | with_unfolding_all rfl)) (by first | rfl | decide | with_unfolding_all rfl) (fun s₁ IC => ?_) rfl rfl rfl
    obtain ⟨h₁, tk₁, rfl⟩ := IC.toInCall.same
    have k : ∀ b o, s.heap.get? b = some o → h₁.get? b = some o := IC.toInCall.keep
    have hn := IC.toInCall.ns
    have hxL : s.heap.objs.size ≠ x := Nat.ne_of_gt (Heap.lt_size hx)
    have X₁ : K.In h₁ := X.keeps k
    have hx₁ := k _ _ hx
    -- self.by = by
    show wpAny _ _ (execs _ _) _ _ _
    refine wpAny_execs_cons (plainObj_wpAny_Assign_Attribute ?_)
    refine ldC (v := v) hn (by first | rfl | with_unfolding_all rfl | kernel_rfl) (ldC (v := .ref x) hn (by first | rfl | with_unfolding_all rfl | kernel_rfl) ?_)
    refine set_plain X₁ (ox := excO C t0) (od := none) ⟨hx₁, rfl, rfl, trivial⟩ T.sa ?_
    refine exc_osa X₁ hx₁ hcl (show refsVE (.ref C :: bm) = true from hbm) rfl T.noN (fun h₃ tk₃ dx k₃ dn dne hx₃ hn₃ => ?_)
    show wpAny _ _ (execs _ _) _ _ _
    have z : s.heap.objs.size < h₁.objs.size := hn.lt
    exact wpAny_execs_nil (hq h₃ tk₃ dx ⟨fun b o hb e => k₃ b o hb (k b o e), hx₃, Nat.le_of_lt (Nat.lt_of_lt_of_le z dn), dne, hn₃⟩)
theorem low_made (T : XgTxt nx qi fl K mg C fI) {v : Value} (X : K.In s.heap) (hlim : s.heap.NoLimit) (hroom : A.depth + 1 < recursionLimit)
    (hq : ∀ h' tk e d, OwnMade fl s.heap h' e C d v → R (.ok (.ret (.ref e))) { s with heap := h', toks := tk }) :
    codeAny (model prog w) A (.call (.ref C) ⟨[v], []⟩) R s := by
  obtain ⟨nm, q, N, bs, bm, sn, sub, ab, col, dd, k0, k1, k2, k3, k5, hC, hbm⟩ := T.cls
  obtain ⟨hp, g, dr, tk, os⟩ := s
  have k : ∀ b o, hp.get? b = some o → ((hp.push (kdv_tup [v])).push (excO C hp.objs.size)).get? b = some o := fun b o e => Heap.get?_push_of_some _ (Heap.get?_push_of_some _ e)
  have hget : ((hp.push (kdv_tup [v])).push (excO C hp.objs.size)).get? (hp.objs.size + 1) = some (excO C hp.objs.size) := by heap_get
  have hnx : K.lookup (hp.objs.size + 1) = none := by
    cases e : K.lookup (hp.objs.size + 1) with
    | none => rfl
    | some o =>
      have z : hp.get? (hp.objs.size + 1) = some o := X _ _ e
      exact absurd (Nat.lt_of_succ_lt (Heap.lt_size z)) (Nat.lt_irrefl _)
  refine call_own F.excBase_ValueError (fun X => refsVE_contains X bm hbm) (X _ _ hC) (looks_findIn X T.iC) (fun self => bind_fn X self T.tC) (one_size v) ?_
  refine low_init (s := ⟨(hp.push (kdv_tup [v])).push (excO C hp.objs.size), g, dr, tk, os⟩) T (X.keeps k) (hlim.keeps k) hget hnx ?_ fun h' tk' dx ⟨k', hx, dn, dne, hns⟩ => ?_
  · show A.depth + 1 < recursionLimit
    exact hroom
  · have old : ∀ b o, hp.get? b = some o → h'.get? b = some o := fun b o e => k' b o (Nat.ne_of_lt (Nat.lt_succ_of_lt (Heap.lt_size e))) (k b o e)
    have z : hp.objs.size + 1 + 1 ≤ dx := by
      first
        | (simpa only [Heap.size_push] using dn)
        | exact dn
        | (have q := dn; rw [Heap.size_push, Heap.size_push] at q; exact q)
    exact ⟨rfl, hq h' tk' (hp.objs.size + 1) dx ⟨old, Nat.le_succ _, ⟨_, _, hx, rfl, rfl, rfl, rfl⟩, Nat.le_trans (Nat.le_trans (Nat.le_succ _) (Nat.le_succ _)) z, dne, hns⟩⟩
end
end XgX
end PySem
namespace L2
open PySem PySem.Spec PyProof.Rows
theorem relO_low {fl : Str} {v : V} {v' : Value} (r : RelV v v') (f : Str) : RelO (List.lookup f [(fl, v)]) (if f = fl then some v' else none) := by
  by_cases hw : f = fl
  · subst hw
    rw [if_pos rfl]
    have q : List.lookup f [(f, v)] = some v := by simp [List.lookup]
    rw [q]
    exact r
  · rw [if_neg hw]
    have qw : (f == fl) = false := by simpa using hw
    have q2 : List.lookup f [(fl, v)] = none := by simp [List.lookup, qw]
    rw [q2]
    trivial
section
variable {X : Cx} {nx qi fl : Str} {C fI : Addr}
/-- Low(e) -/
def tMkLow (fl : Str) (C : Addr) (ta : TA) : St → Hp → XK → Prop := fun σ H Q => ta σ H fun vs H1 => ∃ v, vs = [v] ∧ ∀ d, H1 d = none → Q (.ref C) (some d) (upd H1 d (.xd [(fl, v)]))
theorem pmk_low {a : Expr} {ta : TA} {p pos : Pos} {k : Nat} (T : PySem.XgX.XgTxt nx qi fl X.K X.mg C fI) (hr : Room k X.A) (ha : PA X [a] ta) (hg : Gl X nx := by rfl) (hdb : (nx == ("__debug__" : Str)) = false := by decide)
    (he : starEach (a :: []) X.env = (false, eval a X.env) :: starEach [] X.env := by rfl) (hpl : (backTo pos (starEach [] X.env)).any (·.1) = false := by rfl) :
    PMk X (.Call (.Name nx p) [a] [] pos) (tMkLow fl C ta) := by
  intro pins s σ H Q I h
  refine wpAny_Call_Name_kw (ld_glob I hg T.gC ?_ hdb)
  refine PySem.W.callWith_K (h₀ := X.base) I.ok.mod.kin T.kC (thn (ha.run pos pins s σ H _ I h) fun us s1 hh => ?_) he hpl
  obtain ⟨vs, H1, I1, r1, v, ev, q1⟩ := hh
  subst ev
  refine ⟨I1.kIn, ?_⟩
  cases r1 with
  | cons rv rn =>
    rename_i v' us'
    cases rn
    show wpAny _ _ (call (.ref C) [v']) _ _ _
    have hlim := I1.nolimit
    obtain ⟨hp, g, dr, tk, os⟩ := s1
    refine wpAny_call (PySem.XgX.low_made T I1.kIn hlim (by have := hr.dp; omega) fun h' tk' e d M => ?_)
    show MkP X pins σ Q (.ref e) ⟨h', g, dr, tk', os⟩
    obtain ⟨oe, fv, hoe, hc, hd, hdat, h1⟩ := M.obj
    have hns := M.ns
    obtain ⟨G', g1, g2⟩ := restrict h' fun b => decide (b ≠ e)
    have gk : ∀ b, b ≠ e → G'.get? b = h'.get? b := fun b hb => g1 b (decide_eq_true hb)
    have ge : G'.get? e = none := g2 e (by simp)
    have old : ∀ b o, hp.get? b = some o → G'.get? b = some o := fun b o q => (gk b (Nat.ne_of_lt (Nat.lt_of_lt_of_le (Heap.lt_size q) M.new))).trans (M.keep b o q)
    have ob : ObjOk X.prog X.w (upd H1 d (.xd [(fl, v)])) G' d (.xd [(fl, v)]) :=
      ⟨_, hns.at (fun o q => (gk d M.dne).trans q), fun f => relO_low rv f⟩
    have J : Inv X pins σ (upd H1 d (.xd [(fl, v)])) ⟨G', g, dr, tk', os⟩ := I1.laid (t' := tk') old M.dbig ob
    refine ⟨e, oe, fv, ⟨G', g, dr, tk', os⟩, _, .ref C, some d, rfl, J, fun b o q => ?_, ge, hoe, ⟨hc, hd⟩, hdat, h1, ?_, rfl, I1.bare, raises_own T.exC T.tyC, q1 d (I1.hok.fresh M.dbig)⟩
    · by_cases hb : b = e
      · have q' : G'.get? b = some o := q
        rw [hb, ge] at q'; cases q'
      · exact (gk b hb).symm.trans q
    · rw [upd_ne (Ne.symm M.dne)]
      exact I1.hok.fresh M.new
/-- raise Low(e) -/
def tRaiseLow (fl : Str) (C : Addr) (W : WX) (ta : TA) : TS := fun _ σ H => tMkLow fl C ta σ H fun cls d H' => W cls d σ H'
theorem ps_raiseLow {a : Expr} {ta : TA} {W : WX} {p pos pos2 : Pos} {k : Nat} (hc : X.calm = true) (T : PySem.XgX.XgTxt nx qi fl X.K X.mg C fI) (hr : Room k X.A) (tk : Takes X W) (ha : PA X [a] ta) (hg : Gl X nx := by rfl) (hdb : (nx == ("__debug__" : Str)) = false := by decide)
    (he : starEach (a :: []) X.env = (false, eval a X.env) :: starEach [] X.env := by rfl) (hpl : (backTo pos (starEach [] X.env)).any (·.1) = false := by rfl) :
    PS X (.Raise (some (.Call (.Name nx p) [a] [] pos)) none pos2) (tRaiseLow fl C W ta) := ps_raise hc tk (pmk_low T hr ha hg hdb he hpl)
/-- low.by, low the exception that the suite holds (at a; its class cls, its dict d) -/
def tByLow (fl : Str) (C : Addr) (a : Addr) (cls : Value) (d : Option Addr) (te : TE) : TE := fun σ H Q => te σ H fun x H1 => x = .ref a ∧ cls = .ref C ∧ ∃ (dd : Addr) (v : V), d = some dd ∧ H1 dd = some (.xd [(fl, v)]) ∧ Q v H1
theorem pe_byLow {a : Addr} {oe : Obj} {cls : Value} {d : Option Addr} {pn : List (Addr × Obj)} {e : Expr} {te : TE} {pos : Pos} (T : PySem.XgX.XgTxt nx qi fl X.K X.mg C fI) (hz : Zc cls d oe) (hf : ∃ vs, oe.data = .fields vs) (he : PE (X.suite a ((a, oe) :: pn)) e te)
    (hb : attributeBase e fl X.env (eval e X.env) = eval e X.env := by rfl) :
    PE (X.suite a ((a, oe) :: pn)) (.Attribute e fl pos) (tByLow fl C a cls d te) := by
  refine ⟨fun pins s σ H Q I h => ?_⟩
  refine attr_of hb (thn (he.run pins s σ H _ I h) fun u s1 hh => ?_)
  obtain ⟨x, H1, I1, rx, ex, ec, dd, v, ed, ea, q⟩ := hh
  subst ex
  obtain rfl : u = Value.ref a := rx
  subst ec
  subst ed
  obtain ⟨ha, _⟩ := I1.pin (a, oe) (List.mem_append_left _ List.mem_cons_self)
  obtain ⟨vs, hd⟩ := hf
  have hx : ObjOk X.prog X.w H1 s1.heap dd (.xd [(fl, v)]) := I1.hok dd _ ea
  obtain ⟨mA, hns, hr⟩ := hx
  obtain ⟨od, ho, hl⟩ := lookIn_ns hns
  have l : List.lookup fl [(fl, v)] = some v := by simp [List.lookup]
  obtain ⟨u, hu, ru⟩ := RelO.some_of (v := v) (o := mA fl) (by rw [← l]; exact hr fl)
  have J : PySem.W.InstAt s1.heap a oe C (some od) := ⟨ha, hz.1, by unfold PySem.W.notCls; rw [hd] <;> rfl, by rw [hz.2]; exact ho⟩
  exact HandSPX.exc_get I1.kIn J T.ga T.gg T.exC (PySem.W.findObj_own T.hdC T.noN rfl (by rw [hl, hu])) (handed_of ru) ⟨v, H1, I1.tok _, ru, q⟩
end
end L2

namespace L2.G
open PySem PySem.Spec PyProof.Rows
section
variable {X : Cx} {c : Ct} {pos pos2 p : Pos} {W : WX} {r : RX} {x qi fl : Str} {C fI : Addr} {e : Expr} {fe : dE} {k : Nat}
def sRaise1 (x fl : Str) (fe : dE) (r : RX) : dS := fun _ ρ T => fe ρ T fun d T1 => r ⟨x, some (fl, d)⟩ ρ T1
theorem sx_raise1 (q : PySem.XgX.XgTxt x qi fl X.K X.mg C fI) (hc : X.calm = true) (hr : Room k X.A) (tk : Takes X W) (lk : Lk X c r W) (ha : PEd X e fe) (hg : Gl X x := by rfl) (hdb : (x == ("__debug__" : Str)) = false := by decide)
    (he : starEach (e :: []) X.env = (false, eval e X.env) :: starEach [] X.env := by rfl) (hpl : (backTo pos (starEach [] X.env)).any (·.1) = false := by rfl) :
    PSx X c (.Raise (some (.Call (.Name x p) [e] [] pos)) none pos2) (sRaise1 x fl fe r) := by
  refine ps_imp (ps_raiseLow hc q hr tk (a_cons ha a_nil he) hg hdb he hpl) fun E σ H h => ?_
  obtain ⟨ρ, T, F, K, w, s, h, _⟩ := h
  refine ⟨ρ, T, c.t, F, (fun as T1 => match as with | [.val d] => r ⟨x, some (fl, d)⟩ ρ T1 | _ => False), w.w, h, fun vs H1 F1 as T1 w1 g1 r1 h1 => ?_⟩
  match as, r1, h1 with
  | _, .val (d := d) (v := v) rv .nil, h1 =>
    refine ⟨v, rfl, fun dd hd => ?_⟩
    have g2 := grow_own (t := c.t) (o := .xd [(fl, v)]) w1.sub hd
    exact lk ⟨x, some (fl, d)⟩ ρ T1 F1 _ (.ref C) (some dd) σ (w.grow (g1.trans g2) (wt_own w1 hd)) (s.trans g1.sub) ⟨q.gC, dd, v, rfl, upd_same, rv⟩ h1
end
end L2.G
namespace L2.G
open PySem PySem.Spec PyProof.Rows
theorem Ws.putG {K : PySem.W.Frag} {ρ : En} {T : Tk} {t : Option Addr} {σ : L2.St} {F0 H0 F H : Hp} (w : Ws K ρ T t σ F0 H0 F H) {i : Nat} {s : Option SV} {v : Option V} (hs : ∀ s', s = some s' → (∃ u, v = some u ∧ SlotR K t F H s' u) ∧ ∀ xs, s' ≠ .own xs) : Ws K (ρ.set i s) T t (σ.set i v) F0 H0 F H := by
  refine ⟨⟨w.w.wt, by simpa using w.w.len, fun j s' e => ?_, fun j j' xs ys l e1 e2 e3 e4 => ?_⟩, w.g, fun j xs l e1 e2 => ?_⟩
  · rcases getSet e with ⟨rfl, hl, e'⟩ | ⟨ne, e'⟩
    · obtain ⟨⟨u, hu, hr⟩, _⟩ := hs s' e'.symm
      exact ⟨u, by rw [List.getElem?_set_self (by rw [← w.w.len]; exact hl), hu], hr⟩
    · obtain ⟨u, h1, h2⟩ := w.w.slot j s' e'
      exact ⟨u, by rw [List.getElem?_set_ne ne]; exact h1, h2⟩
  · rcases getSet e1 with ⟨_, _, z⟩ | ⟨n1, e1⟩
    · exact absurd rfl ((hs _ z.symm).2 xs)
    · rcases getSet e2 with ⟨_, _, z⟩ | ⟨n2, e2⟩
      · exact absurd rfl ((hs _ z.symm).2 ys)
      · rw [List.getElem?_set_ne n1] at e3
        rw [List.getElem?_set_ne n2] at e4
        exact w.w.apart j j' xs ys l e1 e2 e3 e4
  · rcases getSet e1 with ⟨_, _, z⟩ | ⟨ne, e1⟩
    · exact absurd rfl ((hs _ z.symm).2 xs)
    · rw [List.getElem?_set_ne ne] at e2
      exact w.fr j xs l e1 e2
def outA (i : Nat) (k : dEnds) : dEnds := { nx := fun ρ1 T1 => k.nx (ρ1.set i none) T1, rt := k.rt, bk := fun ρ1 T1 => k.bk (ρ1.set i none) T1, ct := fun ρ1 T1 => k.ct (ρ1.set i none) T1 }
/-- try .. except X as n -/
def sTryA (mt : Str → Option Bool) (i : Nat) (b : RX → dS) (s : ExD → Addr → Option Addr → dS) : dS := fun k ρ T =>
  b (fun e ρ' T' => mt e.nm = some true ∧ ∀ a dd, s e a (e.arg.map fun _ => dd) (outA i k) (ρ'.set i (some (.exc a (e.arg.map fun x => (dd, x.1, x.2))))) T') k ρ T
section
variable {X : Cx} {x n : Str} {cv : Value} {i : Nat} {body suite : List Stmt} {b₀ : Stmt} {np pos pos' : Pos} {b : RX → dS} {s : ExD → Addr → Option Addr → dS} {mt : Str → Option Bool}
theorem s_tryA (hs : X.stack = X.env :: X.outer) (hf : X.env.frame = some X.env.locals) (hN : X.N.Nodup) (hi : X.N[i]? = some n) (hln : X.env.kindOf n = some .local) (hc : Names X x cv)
    (hm : ∀ nm cls, mt nm = some true → X.mg nm = some cls → PySem.W.exmOne X.K cls cv = some true)
    (hb : ∀ (c : Ct) (r : RX) (W : WX) (pn : List (Addr × Obj)) (xe : Value → Shared → Prop), Takes (X.tr pn xe) W → Lk (X.tr pn xe) c r W → PSsx (X.tr pn xe) c body (b r))
    (hsu : ∀ (e : ExD) (a : Addr) (oe : Obj) (cls : Value) (d : Option Addr) (pn : List (Addr × Obj)), Zc cls d oe → (∃ vs, oe.data = .fields vs) → X.mg e.nm = some cls → PSsd (X.suite a ((a, oe) :: pn)) (b₀ :: suite) (s e a d)) :
    PSd X (.Try body [.ExceptHandler (some (.Name x np)) (some n) (b₀ :: suite) pos'] [] [] pos) (sTryA mt i b s) := by
  refine ps_imp (ps_try_as (i := i) (Wout := fun _ _ _ _ => False) (tb := fun W D σ H => ∃ c r, (∀ pn xe, Lk (X.tr pn xe) c r W) ∧ tDXS X.K c (b r) D σ H) (ts := fun a cls d E σ H => ∃ e : ExD, X.mg e.nm = some cls ∧ tDS X.K (s e a d) E σ H) hs hf hN hi hln hc (fun u s' ⟨_, _, _, _, _, _, _, _, _, _, _, _, _, _, _, _, h⟩ => h.elim)
    (fun W pn xe tk _ => ⟨fun pins s σ H D I ⟨c, r, lk, h⟩ => (hb c r W pn xe tk (lk pn xe)).run pins s σ H D I h⟩)
    (fun a oe cls d pn hz hf => ⟨fun pins s' σ H D I ⟨e, he, h⟩ => (hsu e a oe cls d pn hz hf he).run pins s' σ H D I h⟩)) fun D σ H h => ?_
  obtain ⟨ρ, T, t, F0, H0, F, k, w, h, fe⟩ := h
  refine ⟨⟨t, F0, H0, F⟩, _, fun pn xe e ρ' T' F' H' cls d σ' w' s' re hr => ?_, ρ, T, F, k, w, Same.refl _, h, fe⟩
  obtain ⟨rm, rg⟩ := re
  have gv : ∃ dd, (e.arg.map fun _ => dd) = d ∧ ∀ fl x, e.arg = some (fl, x) → t ≠ some dd ∧ ∃ u, H' dd = some (.xd [(fl, u)]) ∧ Rep X.K F' x u := by
    cases ea : e.arg with
    | none =>
      rw [ea] at rg
      exact ⟨0, rg.symm, fun _ _ z => nomatch z⟩
    | some x =>
      rw [ea] at rg
      obtain ⟨dd, v, e1, e2, e3⟩ := rg
      refine ⟨dd, e1.symm, fun y1 y z => ?_⟩
      cases z
      refine ⟨fun z => ?_, v, e2, e3⟩
      obtain ⟨_, us, hu, _⟩ := w'.w.wt.tank dd z
      rw [e2] at hu
      cases hu
  obtain ⟨dd, ed, hg⟩ := gv
  refine ⟨true, hm _ _ hr.1 rm, fun _ a ha => ⟨e, rm, _, T', t, F0, H0, F', outA i k, w'.putG (i := i) (v := some (.ref a)) fun s1 z => ?_, by rw [← ed]; exact hr.2 a dd, ?_⟩, fun q => nomatch q⟩
  · cases z
    refine ⟨⟨_, rfl, rfl, fun dd2 fl2 x q => ?_⟩, fun xs z => nomatch z⟩
    obtain ⟨y, hy, q2⟩ := Option.map_eq_some_iff.mp q
    cases q2
    exact hg _ _ hy
  · have fe' := fe.to s'
    have un : ∀ {ρ1 T1 σ1 F1 H1}, Ws X.K ρ1 T1 t σ1 F0 H0 F1 H1 → Ws X.K (ρ1.set i none) T1 t (σ1.set i none) F0 H0 F1 H1 := fun w1 => w1.putG fun _ z => nomatch z
    exact ⟨fun ρ1 T1 σ1 F1 H1 w1 s1 q => fe'.nx _ _ _ _ _ (un w1) s1 q, fe'.rt, fun ρ1 T1 σ1 F1 H1 w1 s1 q => fe'.bk _ _ _ _ _ (un w1) s1 q, fun ρ1 T1 σ1 F1 H1 w1 s1 q => fe'.ct _ _ _ _ _ (un w1) s1 q⟩
end
end L2.G
namespace L2.G
open PySem PySem.Spec PyProof.Rows
section
variable {X : Cx} {nm qi fl x : Str} {C fI a : Addr} {oe : Obj} {d : Option Addr} {pn : List (Addr × Obj)} {p pos : Pos}
/-- n.given in the suite, n in slot i -/
def dGiven (fl : Str) (i : Nat) (a : Addr) (d : Option Addr) : dE := fun ρ T k => match ρ[i]? with
  | some (some (.exc a' (some (dd, fl', x)))) => a' = a ∧ d = some dd ∧ fl' = fl ∧ k x T
  | _ => False
theorem d_given (i : Nat) (q : PySem.XgX.XgTxt nm qi fl X.K X.mg C fI) (hz : Zc (.ref C) d oe) (hf : ∃ vs, oe.data = .fields vs) (hN : X.N[i]? = some x) (hv : Vis X.env.scope x) (hd : (x == ("__debug__" : Str)) = false := by decide) (hc : (x == ("__classdict__" : Str)) = false := by decide)
    (hb : attributeBase (.Name x p) fl X.env (eval (.Name x p) X.env) = eval (.Name x p) X.env := by rfl) :
    PEd (X.suite a ((a, oe) :: pn)) (.Attribute (.Name x p) fl pos) (dGiven fl i a d) := by
  refine pe_imp (pe_byLow (te := tVar i) q hz hf (pe_var (X := X.suite a ((a, oe) :: pn)) hN hv hd hc) hb) fun σ H Q h => ?_
  obtain ⟨ρ, T, t, F, k, w, h, f⟩ := h
  unfold dGiven at h
  split at h
  · rename_i a' dd fl' y e
    obtain ⟨rfl, hd2, rfl, h⟩ := h
    obtain ⟨v, e1, ev, hg⟩ := w.slot i _ e
    obtain ⟨_, u, hu, ru⟩ := hg dd _ y rfl
    exact ⟨v, e1, ev, rfl, dd, u, hd2, hu, f.val w.wt ru h⟩
  · exact h.elim
end
end L2.G

set_option maxHeartbeats 2000000
/-! isinstance of a caught exception, with or without a dict -/
namespace PySem.W
open PySem PySem.Spec PySem.Calls PyProof.Rows
section
variable {prog : Program} {w : World} {A : Around} {E : Value → Shared → Prop} {s : Shared} {K : Frag} {x D : Addr} {ox : Obj} {od : Option Obj}
theorem findObj_dataG {C : Addr} {name : Str} {a g : Value} (hc : (clsIn K C).isSome = true) (ha : findIn K (.ref C) name = some (some a)) (hg : specialIn K a "__get__" = some (some g)) (ht : takesIn K a = some true) : findObj K C od name = some (.bind g a) := by
  obtain ⟨cd, hc⟩ := Option.isSome_iff_exists.mp hc
  unfold findObj
  rw [hc, Option.bind_some, ha, Option.bind_some]
  simp [hg, ht]
theorem kin_classG {Q : Option Value → Shared → Prop} (hga : findIn K (.ref D) "__getattribute__" = some (some (.builtin "BaseException.__getattribute__"))) (hgt : findIn K (.ref D) "__getattr__" = some none) (hsub : subIn K (.ref D) (.type "BaseException") = some true)
    (hdct : hasDictIn K D = true) (ha : findIn K (.ref D) "__class__" = some (some (.builtin "object.__class__")))
    (hn : specialIn K (.builtin "object.__class__") "__get__" = some (some (.builtin "getset_descriptor.__get__"))) (htk : takesIn K (.builtin "object.__class__") = some true) (hm : mroIn K D (.type "object") = some true)
    (X : K.In s.heap) (I : InstAt s.heap x ox D od) (h : Q (some (.ref D)) { s with toks := s.toks + 1 }) : wpAny (model prog w) A (getAttr? (.ref x) "__class__") Q E s := by
  have hf : findObj K D od "__class__" = some (.bind (.builtin "getset_descriptor.__get__") (.builtin "object.__class__")) := findObj_dataG (by obtain ⟨cd, hc, _⟩ := any_some hdct; rw [hc]; rfl) ha hn htk
  obtain ⟨hp, g, d, t, os⟩ := s
  have L0 := I.type (M := model prog w)
  have L1 := looks_findIn (M := model prog w) X hga
  have L2 := looks_findIn (M := model prog w) X hgt
  have L3 := looks_find (M := model prog w) X I hf
  have sub : Looks (model prog w) hp (isInstance (.ref x) (.type "BaseException")) true := L0.andThen (looks_subIn X hsub)
  have hx0 : (false && onTheHeap (Value.builtin "BaseException.__getattribute__")) = false := rfl
  have hx2 : (Value.builtin "BaseException.__getattribute__" == Value.builtin "object.__getattribute__") = false := by decide +kernel
  have hx1 : (onTheHeap (Value.ref D) && Value.builtin "BaseException.__getattribute__" == Value.builtin "object.__getattribute__") = false := by rw [hx2]; rfl
  unfold getAttr? getAttrBy? getAttrBy
  refine wpAny_bind (wpAny_mkText (wpAny_bind (wpAny_attempt (wpAny_holding (wpAny_bind (L0.at (wpAny_bind (L1.at ?_))))))))
  show wpAny _ _ (if (onTheHeap (Value.ref D) && Value.builtin "BaseException.__getattribute__" == Value.builtin "object.__getattribute__") = true then _ else _) _ _ _
  rw [hx1, if_neg Bool.false_ne_true]
  unfold getAttrByItsOwn hookBefore
  refine wpAny_bind ?_
  rw [if_pos (show onTheHeap (Value.ref D) = true from rfl)]
  refine L2.at ?_
  refine wpAny_bind (wpAny_attempt (wpAny_holding ?_))
  unfold callGetattribute
  rw [hx0, if_neg Bool.false_ne_true]
  unfold boundAndCalled
  rw [PySem.F.excAttr_ValueError.ga.bind (.ref x)]
  refine wpAny_bind (wpAny_pure ?_)
  show wpAny _ _ (call (.builtin "BaseException.__getattribute__") [.ref x, .str "__class__" t]) _ _ _
  refine wpAny_call (codeAny_call_builtin PySem.F.excAttr_ValueError.ga.plain PySem.F.entry_bexc_ga ?_)
  refine @check_slot (model prog w) _ _ ⟨hp, g, d, t + 1, os⟩ "BaseException.__getattribute__" "BaseException" "__getattribute__" (.ref x) [.str "__class__" t] [] _ (by decide +kernel) (by decide +kernel) sub (PySem.F.args_bexc_ga (.ref x) (.str "__class__" t)) ?_
  unfold Builtin.«object.__getattribute__»
  refine wpAny_bind (wpAny_of_eq (a := ((Value.ref x : Value), [Value.str "__class__" t])) (by first | rfl | (simp only [slotArgs]; rfl)) ?_)
  refine wpAny_bind (wpAny_pure (wpAny_bind (L0.at (wpAny_bind (L3.at ?_)))))
  show wpAny _ _ (holding [Value.builtin "object.__class__"] (call (.builtin "getset_descriptor.__get__") [.builtin "object.__class__", .ref x, .ref D]) >>= ret) _ _ _
  refine wpAny_bind (wpAny_holding (wpAny_call (class_get (s := ⟨hp, g, d, t + 1, os⟩) (ox := ox) (od := od) X I hm ?_)))
  refine wpAny_pure ?_
  show wpAny _ _ (handedOut (.ref D)) _ _ _
  rw [handedOut_of (v := .ref D) rfl]
  first
    | exact wpAny_pure (wpAny_pure h)
    | exact wpAny_pure h
    | exact wpAny_pure (wpAny_bind (wpAny_pure (wpAny_pure h)))
theorem kitx_excG (hga : findIn K (.ref D) "__getattribute__" = some (some (.builtin "BaseException.__getattribute__"))) (hgt : findIn K (.ref D) "__getattr__" = some none) (hsub : subIn K (.ref D) (.type "BaseException") = some true) (hdct : hasDictIn K D = true) (ha : findIn K (.ref D) "__class__" = some (some (.builtin "object.__class__")))
    (hn : specialIn K (.builtin "object.__class__") "__get__" = some (some (.builtin "getset_descriptor.__get__"))) (htk : takesIn K (.builtin "object.__class__") = some true) (hm : mroIn K D (.type "object") = some true) :
    KitX K (.ref x) (.ref D) (fun h => InstAt h x ox D od) where
  ty := fun _ _ _ I => I.type
  it := fun _ _ X _ => by
    obtain ⟨cdD, hcD, _⟩ := any_some hdct
    unfold clsIn at hcD
    split at hcD
    · rename_i c' d' cd' sl' ho
      intro A' Q' E' s' k q
      unfold isType loadHead
      exact wpAny_bind (wpAny_loadPart (k _ _ (X _ _ ho)) (wpAny_pure q))
    · cases hcD
  ne := fun h tp dd its n sl X htp => by
    obtain ⟨cdD, hcD, _⟩ := any_some hdct
    refine Bool.eq_false_iff.mpr fun q => ?_
    have e : D = tp := Value.ref.inj (beq_iff_eq.mp q)
    subst e
    unfold clsIn at hcD
    split at hcD
    · rename_i c' d' cd' sl' ho
      have z := (X _ _ ho).symm.trans htp
      cases z
    · cases hcD
  ca := fun X I k => kin_classG hga hgt hsub hdct ha hn htk hm X I k
end
end PySem.W
namespace L2
open PySem PySem.Spec PyProof.Rows
theorem call_isG {X : Cx} {a D : Addr} {oe : Obj} {d : Option Addr} {pn : List (Addr × Obj)} (C : ExcC X.K D) (hz : Zc (.ref D) d oe) (hf : ∃ vs, oe.data = .fields vs) : CallR (X.suite a ((a, oe) :: pn)) (.builtin "isinstance") (fun xs H Q => (∀ dd, d = some dd → ∃ es, H dd = some (.xd es)) ∧ rIsE X.K D a xs H Q) := by
  intro pins s σ H xs us Q I r h
  obtain ⟨hdd, c, cv, b, rfl, hcv, e, q⟩ := h
  cases r with
  | cons rx rr =>
    cases rr with
    | cons rt rr =>
      cases rr
      cases rx
      have ec := hcv _ rt
      subst ec
      obtain ⟨hget, _⟩ := I.pin (a, oe) (List.mem_append.mpr (.inl List.mem_cons_self))
      obtain ⟨vs, hv⟩ := hf
      have J : ∃ od, PySem.W.InstAt s.heap a oe D od := by
        obtain ⟨oc, od, oda, osl⟩ := oe
        obtain ⟨h1, h2⟩ := hz
        dsimp only at h1 h2 hv
        subst h1 h2 hv
        cases od with
        | none => exact ⟨none, hget, rfl, rfl, trivial⟩
        | some dd =>
          obtain ⟨es, hes⟩ := hdd dd rfl
          obtain ⟨mA, hns, _⟩ := I.hok dd _ hes
          obtain ⟨od, ho, _⟩ := lookIn_ns hns
          exact ⟨some od, hget, rfl, rfl, ho⟩
      obtain ⟨od, J⟩ := J
      exact PySem.W.kia_one (PySem.W.kitx_excG C.hg C.hk C.hs C.hd C.ha C.hn C.ht C.hm) I.kIn J e (fun z => nomatch z) fun tk => ⟨.bl b, H, I.kept (t' := tk) fun _ _ z => z, rfl, q⟩
end L2
namespace L2.G
open PySem PySem.Spec PyProof.Rows
section
variable {X : Cx} {x cn : Str} {a : Addr} {oe : Obj} {cls : Value} {d : Option Addr} {pn : List (Addr × Obj)} {p p2 p3 pos : Pos} {cv : Value} {cx : V} {ob : Option Bool}
/-- isinstance(n, C) in the suite, n in slot i -/
def dIsE (i : Nat) (a : Addr) (d : Option Addr) (ob : Option Bool) : dE := fun ρ T k => match ob, ρ[i]? with
  | some b, some (some (.exc a' g)) => a' = a ∧ d = g.map (·.1) ∧ k (.bl b) T
  | _, _ => False
theorem d_isE (i : Nat) (hk : ∀ b, ob = some b → ∃ D, cls = .ref D ∧ ExcC X.K D ∧ PySem.W.kitOne X.K (.ref D) cv = some b) (hz : Zc cls d oe) (hf : ∃ vs, oe.data = .fields vs) (hc : PE (X.suite a ((a, oe) :: pn)) (.Name cn p2) (tC cx)) (hcx : ∀ u, RelV cx u → u = cv)
    (hm : X.mg "isinstance" = none) (hN : X.N[i]? = some x) (hv : Vis X.env.scope x) (hd : (x == ("__debug__" : Str)) = false := by decide) (hcd : (x == ("__classdict__" : Str)) = false := by decide) (hg : Gl X "isinstance" := by rfl)
    (hs : starEach [.Name x p, .Name cn p2] X.env = (false, eval (.Name x p) X.env) :: starEach [.Name cn p2] X.env := by rfl) (hp : (backTo pos (starEach [.Name cn p2] X.env)).any (·.1) = false := by rfl) :
    PEd (X.suite a ((a, oe) :: pn)) (.Call (.Name "isinstance" p3) [.Name x p, .Name cn p2] [] pos) (dIsE i a d ob) := by
  match ob, hk with
  | none, _ =>
    exact ⟨fun pins s σ H Q I h => by obtain ⟨ρ, T, t, F, k, w, h, f⟩ := h; exact h.elim⟩
  | some b, hk =>
    obtain ⟨D, rfl, C, hk⟩ := hk b rfl
    refine pe_imp (pe_callB (call_isG C hz hf) hg hm (by decide +kernel) (pa_cons (pe_var (X := X.suite a ((a, oe) :: pn)) hN hv hd hcd) (pa_cons hc pa_nil) hs) (by decide) (by decide) hs hp) fun σ H Q h => ?_
    obtain ⟨ρ, T, t, F, k, w, h, f⟩ := h
    unfold dIsE at h
    split at h
    · rename_i b' a' g eb e
      cases eb
      obtain ⟨rfl, hd2, h⟩ := h
      obtain ⟨v, e1, ev, hg⟩ := w.slot i _ e
      subst ev
      refine ⟨_, e1, fun dd q => ?_, cx, cv, b, rfl, hcx, hk, f.val w.wt (.bl _) h⟩
      rw [hd2] at q
      obtain ⟨⟨d1, fl, y⟩, rfl, e2⟩ := Option.map_eq_some_iff.mp q
      cases e2
      obtain ⟨_, u, hu, _⟩ := hg _ _ _ rfl
      exact ⟨_, hu⟩
    · exact h.elim
/-- n.given in the suite -/
def dGivE (fl : Str) (i : Nat) (a : Addr) (d : Option Addr) (ok : Bool) : dE := fun ρ T k => ok = true ∧ dGiven fl i a d ρ T k
theorem d_givE {nm fl : Str} {ok : Bool} (i : Nat) (hk : ok = true → ∃ qi C fI, cls = .ref C ∧ PySem.XgX.XgTxt nm qi fl X.K X.mg C fI) (hz : Zc cls d oe) (hf : ∃ vs, oe.data = .fields vs) (hN : X.N[i]? = some x) (hv : Vis X.env.scope x) (hd : (x == ("__debug__" : Str)) = false := by decide) (hc : (x == ("__classdict__" : Str)) = false := by decide)
    (hb : attributeBase (.Name x p) fl X.env (eval (.Name x p) X.env) = eval (.Name x p) X.env := by rfl) :
    PEd (X.suite a ((a, oe) :: pn)) (.Attribute (.Name x p) fl pos) (dGivE fl i a d ok) := by
  cases ok with
  | false => exact ⟨fun pins s σ H Q I h => by obtain ⟨ρ, T, t, F, k, w, h, f⟩ := h; exact absurd h.1 (by decide)⟩
  | true =>
    obtain ⟨qi, C, fI, rfl, q⟩ := hk rfl
    refine pe_imp (d_given i q hz hf hN hv hd hc hb) fun σ H Q h => ?_
    obtain ⟨ρ, T, t, F, k, w, h, f⟩ := h
    exact ⟨ρ, T, t, F, k, w, h.2, f⟩
end

/-! calls that may raise within other expressions -/
section
variable {X : Cx} {c : Ct} {e a b : Expr} {es : List Expr} {fe fa fb : dE} {fr : dA} {ft : dT} {f g : dS} {pos p : Pos} {n : Nat} {x : Str} {ps : List Str} {sem : Sem}
theorem twox {K : PySem.W.Frag} {fa fb : dE} {o : D → D → Tk → KD → Prop} {σ : L2.St} {H : Hp} {Q : VK} {R : V → V → Hp → VK → Prop}
    (s : ∀ {t : Option Addr} {F H : Hp} {T : Tk} {x y : D} {v w : V} {k : KD}, Wt K T t F H → Rep K F x v → Rep K F y w → o x y T k → Fin K t F H k Q → R v w H Q)
    (h : tDX K c (fun ρ T k => fa ρ T fun x T1 => fb ρ T1 fun y T2 => o x y T2 k) σ H Q) : tDX K c fa σ H fun v H1 => tDX K c fb σ H1 fun w H2 => R v w H2 Q := by
  obtain ⟨ρ, T, F, k, w, sm, h, f⟩ := h
  refine ⟨ρ, T, F, _, w, sm, h, fun v H1 F1 x T1 w1 g1 r1 h1 => ?_⟩
  refine ⟨ρ, T1, F1, _, w.grow g1 w1, sm.trans g1.sub, h1, fun u H2 F2 y T2 w2 g2 r2 h2 => ?_⟩
  exact s w2 (r1.mono g2.sub) r2 h2 (f.then (g1.trans g2))
theorem x_cmp {op : CmpOp} {r : R2} {o : Op2} (ho : OpR X (compareOp op) r) (s : OpS X.K r o) (ha : PEx X c a fa) (hb : PEx X c b fb) (hm : behindInMarks op b = false) : PEx X c (.Compare a [op] [b] pos) (dOp o fa fb) :=
  pe_imp (pe_cmpR ho ha hb hm) fun σ H Q h => twox (o := fun x y T k => o x y fun d => k d T) (fun w r1 r2 q f => s w r1 r2 q f) h
theorem x_feq (hr : Room n X.A) (ha : PEx X c a fa) (hb : PEx X c b fb) : PEx X c (.Compare a [.Eq] [b] pos) (dOp (oF fEq) fa fb) := x_cmp (op_eq.or (op_eqD (by have := room66 hr; omega))) (oEqU_ok.imp fun _ _ _ => fEq_ok) ha hb (nomark _)
theorem sx_forI {tg : Expr} {body : List Stmt} {g : dG} {fi : dI} (hp : PassesOwn (model X.prog X.w) X.A X.env X.xe) (hc : X.calm = true) (hi : PId X tg e fi) (hg : PGd X tg g) (hb : PSsx X c body f) (hst : ∀ x, foldedSetIterable e X.env x = pure x := by intro _; rfl) : PSx X c (.For tg e body [] pos) (sForI fi g f) := by
  refine ps_imp (ps_for hp hc hi hg hb hst) fun E σ H h => ?_
  obtain ⟨ρ, T, F, k, w, sm, h, fE⟩ := h
  refine ⟨ρ, T, c.t, F, _, w.w, h, fun J H1 F1 xs T1 w1 g1 src hl h1 => ?_⟩
  refine ⟨fun i m σ' H' => m = xs.length - i ∧ i ≤ xs.length ∧ ∃ ρ' T' F', Ws X.K ρ' T' c.t σ' c.F0 c.H0 F' H' ∧ Same F1 F' ∧ forL g f k (xs.drop i) ρ' T', ⟨xs.length, by simp, Nat.zero_le _, ρ, T1, F1, w.grow g1 w1, Same.refl _, h1⟩, ?_⟩
  rintro i m σ' H' ⟨rfl, hi, ρ', T', F', w', s', hh⟩
  by_cases lt : i < xs.length
  · refine .inr ⟨src.go i F' H' s' w'.w.wt.sub lt, fun σ2 H2 => ∃ ρ' T' F', Ws X.K ρ' T' c.t σ2 c.F0 c.H0 F' H2 ∧ Same F1 F' ∧ forL g f k (xs.drop (i + 1)) ρ' T', fun σ2 H2 q => ⟨xs.length - (i + 1), by omega, rfl, lt, q⟩, fun x H2 y => ?_⟩
    obtain ⟨F2, d, hd, rd, g2, w2⟩ := src.yl i T' F' H' x H2 s' w'.w.wt lt y
    have hx : xs.drop i = d :: xs.drop (i + 1) := by rw [List.drop_eq_getElem_cons lt, (List.getElem?_eq_some_iff.mp hd).2]
    rw [hx] at hh
    have sF := (g1.sub.trans s').trans g2.sub
    refine ⟨ρ', T', c.t, c.F0, c.H0, F2, d, _, w'.grow g2 w2, rd, hh, fun ρ3 T3 σ3 F3 H3 w3 s3 h3 => ?_⟩
    have s3' := (s'.trans g2.sub).trans s3
    refine ⟨ρ3, T3, F3, _, w3, (sm.trans sF).trans s3, h3, ?_⟩
    exact ⟨fun ρ4 T4 σ4 F4 H4 w4 s4 q => ⟨ρ4, T4, F4, w4, s3'.trans s4, q⟩, fE.rt, fE.nx.to (sF.trans s3), fun ρ4 T4 σ4 F4 H4 w4 s4 q => ⟨ρ4, T4, F4, w4, s3'.trans s4, q⟩⟩
  · have e : i = xs.length := by omega
    subst e
    rw [List.drop_length] at hh
    exact .inl ⟨src.st F' H' s' w'.w.wt.sub, fE.nx _ _ _ _ _ w' (g1.sub.trans s') hh⟩
end
end L2.G
/-! l.count(True), l.index(True) of lists of truth values -/
namespace L2
open PySem PySem.Spec PyProof.Rows
section
variable {X : Cx}
def rCntD (K : PySem.W.Frag) : V → List V → Hp → VK → Prop := fun x xs H Q => ∃ (a : Addr) (y : V) (d : PyData) (ds : List PyData), x = V.ref a ∧ xs = [y] ∧ Dp K H (V.ref a) (.list ds) ∧ Dp K H y d ∧
  SeqAt.shaped (.list ds) = true ∧ SeqAt.shaped d = true ∧ Q (.int (ds.countP fun z => PyData.eqv z d : Nat)) H
theorem mt_countD (hu : X.A.units + 65 < cLine) : MtR X "list.count" (rCntD X.K) := by
  intro pins s σ H x xs v us Q I rx rxs h
  obtain ⟨a, y, d, ds, rfl, rfl, hl, hy, sl, sd, q⟩ := h
  cases rx
  cases rxs with
  | cons ry rt =>
    rename_i uy ut
    cases rt
    obtain ⟨bs, r1⟩ := Dp.reads I d y uy hy ry
    have hxs : PyData.canLayAll0 ds = true := SeqAt.canLay_of_shaped sl
    have hroom : X.A.units + 1 + min (PyData.depthAll ds) d.depth < cLine := room_in_shaped sd hu
    cases hl with
    | lst hs ha =>
      obtain ⟨its, rv, ⟨⟨cls, dd, data, sls⟩, n, ho, hc, hdn, hdt⟩, hlen⟩ := I.list hs
      simp only at hc hdt
      subst hc hdt
      obtain ⟨as, h4⟩ := Dp.readsAll I ds _ its ha rv
      have hmap : its.map (SeqAt.readOf s.heap) = ds := SeqAt.readsAll_map ds its as hxs h4
      refine call_meets PySem.F.slot_list_count ⟨_, ho, rfl⟩ PySem.F.entry_list_count (PySem.F.args_list_count_2 _ _)
        (SeqAt.list_countAt a its.toArray n dd sls uy (fun u => PyData.eqv (SeqAt.readOf s.heap u) d)) ⟨ho, SeqAt.items_eqAt (vs := its.toArray) (show ReadsAll s.heap its.toArray.toList ds as from h4) r1 hxs (SeqAt.canLay_of_shaped sd) hroom, ?_⟩
      have ec : its.toArray.toList.countP (fun u => PyData.eqv (SeqAt.readOf s.heap u) d) = ds.countP fun z => PyData.eqv z d := by
        rw [← hmap, List.countP_map]
        rfl
      refine ⟨.int (ds.countP fun z => PyData.eqv z d : Nat), H, I.tok _, ⟨s.toks, ?_⟩, q⟩
      rw [ec]
end
end L2
namespace L2.G
open PySem PySem.Spec PyProof.Rows
def cntT : List Bool → Int | [] => 0 | true :: r => cntT r + 1 | false :: r => cntT r
theorem cntT_nil : cntT [] = 0 := rfl
theorem cntT_t {r : List Bool} : cntT (true :: r) = cntT r + 1 := rfl
theorem cntT_f {r : List Bool} : cntT (false :: r) = cntT r := rfl
def idxT : List Bool → Option Nat | [] => none | true :: _ => some 0 | false :: r => (idxT r).map (· + 1)
theorem idxT_f {r : List Bool} : idxT (false :: r) = (idxT r).map (· + 1) := rfl
theorem eqv_bt {b : Bool} : PyData.eqv (.bool b) (.bool true) = b := by cases b <;> decide +kernel
theorem pyL_bl : ∀ {bs : List Bool}, D.pyL (bs.map D.bl) = bs.map PyData.bool
  | [] => rfl
  | b :: r => by simp only [List.map_cons, D.pyL, D.py, pyL_bl (bs := r)]
theorem cntT_py : ∀ {bs : List Bool}, (((bs.map PyData.bool).countP fun z => PyData.eqv z (.bool true) : Nat) : Int) = cntT bs
  | [] => rfl
  | b :: r => by
    rw [List.map_cons, List.countP_cons, eqv_bt]
    have ih := cntT_py (bs := r)
    cases b
    · rw [cntT_f, ← ih]; rfl
    · rw [cntT_t, ← ih]; rfl
theorem idxT_py : ∀ {bs : List Bool} {i : Nat}, idxT bs = some i → bs[i]? = some true ∧ ∀ m, m < i → bs[m]? = some false
  | [], i, h => nomatch h
  | true :: r, i, h => by cases h; exact ⟨rfl, fun m hm => absurd hm (Nat.not_lt_zero m)⟩
  | false :: r, i, h => by
    rw [idxT_f] at h
    obtain ⟨j, hj, rfl⟩ := Option.map_eq_some_iff.mp h
    obtain ⟨h1, h2⟩ := idxT_py hj
    refine ⟨h1, fun m hm => ?_⟩
    cases m with
    | zero => rfl
    | succ m => exact h2 m (by omega)
def cntR (g : List Bool → Option Int) (P : Prop) (o : Option (List Bool)) : PD := match o with | some bs => (match g bs with | some i => some (P, .int i) | none => none) | none => none
theorem cntR_some {g : List Bool → Option Int} {P : Prop} {bs : List Bool} {i : Int} (h : g bs = some i) : cntR g P (some bs) = some (P, .int i) := by unfold cntR; simp only [h]
def fCntT : D → D → PD | .lst xs, .bl true => cntR (fun bs => some (cntT bs)) (D.eqOk (.lst xs)) (bls? xs) | _, _ => none
def fIdxT : D → D → PD | .lst xs, .bl true => cntR (fun bs => (idxT bs).map Int.ofNat) (D.eqOk (.lst xs)) (bls? xs) | _, _ => none
theorem fCntT_lst {xs : List D} : fCntT (.lst xs) (.bl true) = cntR (fun bs => some (cntT bs)) (D.eqOk (.lst xs)) (bls? xs) := rfl
theorem fIdxT_lst {xs : List D} : fIdxT (.lst xs) (.bl true) = cntR (fun bs => (idxT bs).map Int.ofNat) (D.eqOk (.lst xs)) (bls? xs) := rfl
def dMt (o : Op2) (fo fx : dE) : dE := fun ρ T k => fo ρ T fun x T1 => ∃ xs, x = .lst xs ∧ fx ρ T1 fun y T2 => o x y fun d => k d T2
section
variable {X : Cx} {o e : Expr} {fo fe : dE} {apos cpos : Pos} {n : Nat}
theorem mt_go {K : PySem.W.Frag} {R : V → List V → Hp → VK → Prop} {op : Op2} {fo fe : dE} {σ : L2.St} {H : Hp} {Q : VK}
    (s : ∀ {t : Option Addr} {F H : Hp} {T : Tk} {x y : D} {v w : V} {k : KD} {Q : VK}, Wt K T t F H → Rep K F x v → Rep K F y w → op x y (fun d => k d T) → Fin K t F H k Q → R v [w] H Q)
    (h : tD K (dMt op fo fe) σ H Q) : tBM K "list" R (tD K fo) (tDA K (aCons fe aNil)) σ H Q := by
  obtain ⟨ρ, T, t, F, k, w, h, f⟩ := h
  refine ⟨ρ, T, t, F, _, w, h, fun v H1 F1 x T1 w1 g1 r1 h1 => ?_⟩
  obtain ⟨xs, rfl, h1⟩ := h1
  obtain ⟨a, us, rfl, ha, ra⟩ := rep_lst r1
  refine ⟨.inl ⟨rfl, us, .of (w1.sub _ _ ha)⟩, ρ, T1, t, F1, (fun as T2 => match as with | [.val y] => op (.lst xs) y fun d => k d T2 | _ => False), w.grow g1 w1, h1, fun vs H2 F2 as T2 w2 g2 r2 h2 => ?_⟩
  match as, r2, h2 with
  | _, .val (d := d) (v := v) rv .nil, h2 => exact s w2 (r1.mono g2.sub) rv h2 (f.then (g1.trans g2))
theorem bls_py {xs : List D} {bs : List Bool} (e : bls? xs = some bs) : D.py (.lst xs) = .list (bs.map PyData.bool) := by
  rw [bls_some e]
  show PyData.list (D.pyL _) = _
  rw [pyL_bl]
theorem fCntT_ok {K : PySem.W.Frag} {t : Option Addr} {F H : Hp} {T : Tk} {x y : D} {v w : V} {k : KD} {Q : VK} (wt : Wt K T t F H) (r1 : Rep K F x v) (r2 : Rep K F y w) (q : oF fCntT x y (fun d => k d T)) (f : Fin K t F H k Q) : rCntD K v [w] H Q := by
  cases x with
  | lst xs =>
    cases y with
    | bl b =>
      cases b with
      | true =>
        have q : oF fCntT (.lst xs) (.bl true) (fun d => k d T) := q
        unfold oF at q
        rw [fCntT_lst] at q
        cases e : bls? xs with
        | none => rw [e] at q; exact q.elim
        | some bs =>
          rw [e, cntR_some rfl] at q
          obtain ⟨q1, q2⟩ := q
          have hp := r1.dp wt.sub q1.1
          have hs := q1.2
          rw [bls_py e] at hp hs
          obtain ⟨a, us, rfl, _, _⟩ := rep_lst r1
          cases r2
          refine ⟨a, _, .bool true, _, rfl, rfl, hp, .bl _, hs, by decide +kernel, ?_⟩
          rw [cntT_py]
          exact f.val wt (.int _) q2
      | false => exact q.elim
    | _ => exact q.elim
  | _ => exact q.elim
theorem fIdxT_ok {K : PySem.W.Frag} {t : Option Addr} {F H : Hp} {T : Tk} {x y : D} {v w : V} {k : KD} {Q : VK} (wt : Wt K T t F H) (r1 : Rep K F x v) (r2 : Rep K F y w) (q : oF fIdxT x y (fun d => k d T)) (f : Fin K t F H k Q) : rIndexD K v [w] H Q := by
  cases x with
  | lst xs =>
    cases y with
    | bl b =>
      cases b with
      | true =>
        have q : oF fIdxT (.lst xs) (.bl true) (fun d => k d T) := q
        unfold oF at q
        rw [fIdxT_lst] at q
        cases e : bls? xs with
        | none => rw [e] at q; exact q.elim
        | some bs =>
          rw [e] at q
          cases e2 : idxT bs with
          | none =>
            have : cntR (fun bs => (idxT bs).map Int.ofNat) (D.eqOk (.lst xs)) (some bs) = none := by unfold cntR; simp only [e2, Option.map_none]
            rw [this] at q
            exact q.elim
          | some j =>
            rw [cntR_some (i := (j : Int)) (by rw [e2] <;> rfl)] at q
            obtain ⟨q1, q2⟩ := q
            have hp := r1.dp wt.sub q1.1
            have hs := q1.2
            rw [bls_py e] at hp hs
            obtain ⟨a, us, rfl, _, _⟩ := rep_lst r1
            cases r2
            obtain ⟨h1, h2⟩ := idxT_py e2
            refine ⟨a, _, .bool true, _, j, .bool true, rfl, rfl, hp, .bl _, hs, by decide +kernel, by rw [List.getElem?_map, h1] <;> rfl, by decide +kernel, fun m z hm hz => ?_, f.val wt (.int _) q2⟩
            rw [List.getElem?_map, h2 m hm] at hz
            cases hz
            decide +kernel
      | false => exact q.elim
    | _ => exact q.elim
  | _ => exact q.elim
theorem d_cntT (hu : X.A.units + 66 < cLine) (ho : PEd X o fo) (he : PEd X e fe) (hb : attributeBase o "count" X.env (eval o X.env) = eval o X.env := by rfl)
    (hfew : ((backTo cpos (starEach [e] X.env)).all (fun x => !x.1) && (backToKw cpos (keywordEach [] X.env)).all (fun x => x.1.isSome)
      && decide (([e]).length + ([] : List Keyword).length + (if ([] : List Keyword).isEmpty then 0 else 1) < 30)) = true := by rfl)
    (hline : (apos.endLine == cpos.line) = true := by rfl) (hs : starEach [e] X.env = (false, eval e X.env) :: starEach [] X.env := by rfl) (hp : (backTo cpos (starEach [] X.env)).any (·.1) = false := by rfl) :
    PEd X (.Call (.Attribute o "count" apos) [e] [] cpos) (dMt (oF fCntT) fo fe) :=
  pe_imp (pe_bm PySem.F.plainAttrs_list PySem.F.slot_list_count PySem.F.type_list_count (mt_countD (by omega)) ho (a_cons he a_nil hs) hb hfew hline hs hp) fun _ _ _ h => mt_go (fun w r1 r2 q f => fCntT_ok w r1 r2 q f) h
theorem d_idxT (hu : X.A.units + 66 < cLine) (ho : PEd X o fo) (he : PEd X e fe) (hb : attributeBase o "index" X.env (eval o X.env) = eval o X.env := by rfl)
    (hfew : ((backTo cpos (starEach [e] X.env)).all (fun x => !x.1) && (backToKw cpos (keywordEach [] X.env)).all (fun x => x.1.isSome)
      && decide (([e]).length + ([] : List Keyword).length + (if ([] : List Keyword).isEmpty then 0 else 1) < 30)) = true := by rfl)
    (hline : (apos.endLine == cpos.line) = true := by rfl) (hs : starEach [e] X.env = (false, eval e X.env) :: starEach [] X.env := by rfl) (hp : (backTo cpos (starEach [] X.env)).any (·.1) = false := by rfl) :
    PEd X (.Call (.Attribute o "index" apos) [e] [] cpos) (dMt (oF fIdxT) fo fe) :=
  pe_imp (pe_bm PySem.F.plainAttrs_list PySem.F.slot_list_index PySem.F.type_list_index (mt_indexD (by omega)) ho (a_cons he a_nil hs) hb hfew hline hs hp) fun _ _ _ h => mt_go (fun w r1 r2 q f => fIdxT_ok w r1 r2 q f) h
end
/-! walking -/
def exK (ob : Option Bool) (s : Option (Option SV)) (a : Addr) (d : Option Addr) (T : Tk) (k : KD) (fz : Fz k := ⟨⟩) : Prop := match ob, s with
  | some b, some (some (.exc a' g)) => a' = a ∧ d = g.map (·.1) ∧ k (.bl b) T
  | _, _ => False
theorem exK_0 {b : Bool} {a : Addr} {T : Tk} {k : KD} : exK (some b) (some (some (.exc a none))) a none T k = k (.bl b) T := propext ⟨fun h => h.2.2, fun h => ⟨rfl, rfl, h⟩⟩
theorem exK_1 {b : Bool} {a dd : Addr} {x : Str × D} {T : Tk} {k : KD} : exK (some b) (some (some (.exc a (some (dd, x))))) a (some dd) T k = k (.bl b) T := propext ⟨fun h => h.2.2, fun h => ⟨rfl, rfl, h⟩⟩
def gvK (fl : Str) (s : Option (Option SV)) (a : Addr) (d : Option Addr) (T : Tk) (k : KD) (fz : Fz k := ⟨⟩) : Prop := match s with
  | some (some (.exc a' (some (dd, fl', x)))) => a' = a ∧ d = some dd ∧ fl' = fl ∧ k x T
  | _ => False
theorem gvK_1 {fl : Str} {a dd : Addr} {x : D} {T : Tk} {k : KD} : gvK fl (some (some (.exc a (some (dd, fl, x))))) a (some dd) T k = k x T := propext ⟨fun h => h.2.2.2, fun h => ⟨rfl, rfl, rfl, h⟩⟩
def mtK (x : D) (F : Prop) (fz : Fz F := ⟨⟩) : Prop := ∃ xs, x = .lst xs ∧ F
theorem mtK_go {xs : List D} {F : Prop} : mtK (.lst xs) F = F := propext ⟨fun ⟨_, _, h⟩ => h, fun h => ⟨xs, rfl, h⟩⟩
section
variable {ρ : En} {T : Tk} {k : KD} {o : Op2} {fe fo : dE} {fr : dA} {i n : Nat} {K : dEnds} {se : SemX} {r : RX} {x fl : Str} {a : Addr} {d : Option Addr} {ob : Option Bool}
theorem h_isE : dIsE i a d ob ρ T k = exK ob ρ[i]? a d T k := propext Iff.rfl
theorem h_givE : dGivE fl i a d true ρ T k = gvK fl ρ[i]? a d T k := propext ⟨fun h => h.2, fun h => ⟨rfl, h⟩⟩
theorem h_mt : dMt o fo fe ρ T k = fo ρ T fun x T1 => mtK x (fe ρ T1 fun y T2 => o x y fun d => k d T2) := propext Iff.rfl
theorem h_callX : dCallX n se r fr ρ T k = fr ρ T fun as T1 => callN n (se (fun e T => r e ρ T)) as T1 k := propext Iff.rfl
def raiK (r : RX) (x : Str) (g : Option (Str × D)) (ρ : En) (T : Tk) : Prop := r ⟨x, g⟩ ρ T
theorem raiK_go {r : RX} {x : Str} {g : Option (Str × D)} : raiK r x g ρ T = r ⟨x, g⟩ ρ T := propext Iff.rfl
theorem h_raise1 : sRaise1 x fl fe r K ρ T = fe ρ T fun d T1 => raiK r x (some (fl, d)) ρ T1 := propext Iff.rfl
theorem h_raise0 : sRaise0 x r K ρ T = raiK r x none ρ T := propext Iff.rfl
end
end L2.G
/-! the head's facts on classes -/
namespace L2.G
open PySem PySem.Spec PyProof.Rows
theorem xgC_of {K : PySem.W.Frag} {C : Addr} (q : xgC K C = true) : ∃ nm q N bs bm sn sub ab col dd k0 k1 k2 k3 k5, K.lookup C = some (PySem.excClassObj nm q C N bs bm true sn sub ab col dd k0 k1 k2 k3 k5 "ValueError.__new__") ∧ PySem.HandSPX.refsVE bm = true := by
  unfold xgC at q
  split at q
  · rename_i dd cd sl ho
    split at q
    · rename_i C' bm k0 k1 k2 k3 n k5 hm hs
      simp only [Bool.and_eq_true, beq_iff_eq, Bool.not_eq_true'] at q
      obtain ⟨⟨⟨⟨rfl, rfl⟩, hdel⟩, hdi⟩, ht⟩ := q
      obtain ⟨nm, bs, mro, ns, qn, hd, sn, sub, ab, col, del⟩ := cd
      dsimp only at hm hdel hdi
      subst hm hdel hdi
      have hsl : sl = #[k0, k1, k2, k3, some (.builtin "ValueError.__new__"), k5] := by
        obtain ⟨l⟩ := sl
        simp only at hs
        rw [hs]
      subst hsl
      exact ⟨nm, qn, ns, bs, bm, sn, sub, ab, col, dd, k0, k1, k2, k3, k5, ho, ht⟩
    · cases q
  · cases q
theorem exB_of {K : PySem.W.Frag} {C : Addr} (q : exB K C = true) : ExcC K C := by
  unfold exB at q
  simp only [Bool.and_eq_true, beq_iff_eq] at q
  obtain ⟨q1, q2, q3, q4, q5, q6, q7, q8⟩ := q
  exact ⟨q1, q2, q3, q4, q5, q6, q7, q8⟩
section
variable {z : Hd} {K : PySem.W.Frag} {h : Heap} {mg : Str → Option Value}
/-- the text of an __init__ that keeps what is given -/
def IniOk (fl : Str) (st : Stmt) : Prop := (fl = "given" ∨ fl = "index") ∧ ∃ p1 p2 q1 q2 q3 q4, defArgs st = PySem.XgX.iA fl p1 p2 ∧ defBody st = PySem.XgX.iB fl q1 q2 q3 q4 ∧ defScope st = PySem.XgX.iS fl
theorem Hd.Says.xg (X : K.In h) (G : h.Ns mainGlobals mg) (c : z.Says K) (i : Nat) {x fl qi : Str} {st : Stmt} (e : z.ini[i]? = some (x, fl, qi, st)) (hi : IniOk fl st) : ∃ C fI, PySem.XgX.XgTxt x qi fl K mg C fI := by
  obtain ⟨C, f, oc, od, osl, kV, doc, pm, an, cdv, ct, h1, h2, h3, h4⟩ := c.i _ (List.mem_of_getElem? e)
  obtain ⟨hfl, p1, p2, q1, q2, q3, q4, e1, e2, e3⟩ := hi
  unfold xgB at h2
  simp only [Bool.and_eq_true, beq_iff_eq] at h2
  obtain ⟨a1, a2, a3, a4, a5, a6, a7, a8, a9, b1, b2, b3⟩ := h2
  simp only [e1, e2, e3] at h3
  exact ⟨C, f, PySem.W.mg_of X G h1, xgC_of a1, a2, a3, a4, hfl, a5, a6, a7, a8, a9, b1, b2, b3, oc, od, kV, doc, pm, an, cdv, ct, osl, p1, p2, q1, q2, q3, q4, h3, h4⟩
theorem Hd.Says.io (X : K.In h) (G : h.Ns mainGlobals mg) (c : z.Says K) {cn : Str} {is : Str → Option Bool} (hcn : cn ∈ z.exs) (hm : ∀ nm b, is nm = some b → nm ∈ z.exs ∧ (nm, cn, b) ∈ z.kis) :
    ∃ C, mg cn = some (.ref C) ∧ ∀ nm cls, mg nm = some cls → ∀ b, is nm = some b → ∃ D, cls = .ref D ∧ ExcC K D ∧ PySem.W.kitOne K (.ref D) (.ref C) = some b := by
  obtain ⟨C, hC, _⟩ := c.e _ hcn
  have z3 := PySem.W.mg_of X G hC
  refine ⟨C, z3, fun nm cls hn b hb => ?_⟩
  obtain ⟨h1, h2⟩ := hm nm b hb
  obtain ⟨D, hD, eD⟩ := c.e _ h1
  obtain ⟨u, C', k1, k2, k3⟩ := c.ki _ h2
  have z1 := PySem.W.mg_of X G hD
  have z2 := PySem.W.mg_of X G k1
  have z4 := PySem.W.mg_of X G k2
  simp only at z2 z4
  rw [hn] at z1 z2
  rw [z3] at z4
  cases z1
  cases z2
  cases z4
  exact ⟨D, rfl, exB_of eD, k3⟩
theorem Hd.Says.ib (X : K.In h) (G : h.Ns mainGlobals mg) (c : z.Says K) {cn : String} {is : Str → Option Bool} (hm : ∀ nm b, is nm = some b → nm ∈ z.exs ∧ (nm, cn, b) ∈ z.kib) :
    ∀ nm cls, mg nm = some cls → ∀ b, is nm = some b → ∃ D, cls = .ref D ∧ ExcC K D ∧ PySem.W.kitOne K (.ref D) (.type cn) = some b := by
  intro nm cls hn b hb
  obtain ⟨h1, h2⟩ := hm nm b hb
  obtain ⟨D, hD, eD⟩ := c.e _ h1
  obtain ⟨u, k1, k3⟩ := c.kb _ h2
  have z1 := PySem.W.mg_of X G hD
  have z2 := PySem.W.mg_of X G k1
  simp only at z2
  rw [hn] at z1 z2
  cases z1
  cases z2
  exact ⟨D, rfl, exB_of eD, k3⟩
end
section
variable {X : Cx} {x cn : Str} {a : Addr} {oe : Obj} {cls : Value} {d : Option Addr} {pn : List (Addr × Obj)} {p p2 p3 pos : Pos} {ob : Option Bool}
theorem d_isO (i : Nat) {C : Addr} (hC : X.mg cn = some (.ref C)) (hk : ∀ b, ob = some b → ∃ D, cls = .ref D ∧ ExcC X.K D ∧ PySem.W.kitOne X.K (.ref D) (.ref C) = some b) (hz : Zc cls d oe) (hf : ∃ vs, oe.data = .fields vs)
    (hm : X.mg "isinstance" = none) (hN : X.N[i]? = some x := by rfl) (hv : Vis X.env.scope x := by first | exact Or.inl rfl | exact Or.inr (Or.inl rfl) | exact Or.inr (Or.inr rfl)) (hd : (x == ("__debug__" : Str)) = false := by decide) (hcd : (x == ("__classdict__" : Str)) = false := by decide) (hg : Gl X "isinstance" := by rfl)
    (hg2 : Gl X cn := by rfl) (hd2 : (cn == ("__debug__" : Str)) = false := by decide)
    (hs : starEach [.Name x p, .Name cn p2] X.env = (false, eval (.Name x p) X.env) :: starEach [.Name cn p2] X.env := by rfl) (hp : (backTo pos (starEach [.Name cn p2] X.env)).any (·.1) = false := by rfl) :
    PEd (X.suite a ((a, oe) :: pn)) (.Call (.Name "isinstance" p3) [.Name x p, .Name cn p2] [] pos) (dIsE i a d ob) :=
  d_isE i hk hz hf (pe_glob (X := X.suite a ((a, oe) :: pn)) (v := .ref C) hg2 hC rfl hd2) (fun _ r => r) hm hN hv hd hcd hg hs hp
theorem d_isB (i : Nat) {T : String} (hC : X.mg T = none) (hk : ∀ b, ob = some b → ∃ D, cls = .ref D ∧ ExcC X.K D ∧ PySem.W.kitOne X.K (.ref D) (.type T) = some b) (hz : Zc cls d oe) (hf : ∃ vs, oe.data = .fields vs)
    (hm : X.mg "isinstance" = none) (hb : bootBuiltins T = some (.type T) := by decide +kernel) (hN : X.N[i]? = some x := by rfl) (hv : Vis X.env.scope x := by first | exact Or.inl rfl | exact Or.inr (Or.inl rfl) | exact Or.inr (Or.inr rfl)) (hd : (x == ("__debug__" : Str)) = false := by decide) (hcd : (x == ("__classdict__" : Str)) = false := by decide) (hg : Gl X "isinstance" := by rfl)
    (hg2 : Gl X T := by rfl) (hn : (T : Str) ≠ "__name__" := by decide) (hd2 : ((T : Str) == ("__debug__" : Str)) = false := by decide)
    (hs : starEach [.Name x p, .Name T p2] X.env = (false, eval (.Name x p) X.env) :: starEach [.Name T p2] X.env := by rfl) (hp : (backTo pos (starEach [.Name T p2] X.env)).any (·.1) = false := by rfl) :
    PEd (X.suite a ((a, oe) :: pn)) (.Call (.Name "isinstance" p3) [.Name x p, .Name T p2] [] pos) (dIsE i a d ob) :=
  d_isE i hk hz hf (pe_bltn (X := X.suite a ((a, oe) :: pn)) (v := .ty T) hg2 hC hb rfl hn hd2) (fun _ r => r) hm hN hv hd hcd hg hs hp
theorem d_giv {nm fl : Str} {ok : Bool} (i : Nat) (hk : ok = true → ∃ qi C fI, cls = .ref C ∧ PySem.XgX.XgTxt nm qi fl X.K X.mg C fI) (hz : Zc cls d oe) (hf : ∃ vs, oe.data = .fields vs) (hN : X.N[i]? = some x := by rfl) (hv : Vis X.env.scope x := by first | exact Or.inl rfl | exact Or.inr (Or.inl rfl) | exact Or.inr (Or.inr rfl)) (hd : (x == ("__debug__" : Str)) = false := by decide) (hc : (x == ("__classdict__" : Str)) = false := by decide)
    (hb : attributeBase (.Name x p) fl X.env (eval (.Name x p) X.env) = eval (.Name x p) X.env := by rfl) :
    PEd (X.suite a ((a, oe) :: pn)) (.Attribute (.Name x p) fl pos) (dGivE fl i a d ok) := d_givE i hk hz hf hN hv hd hc hb
end
def initS (s : Stmt) : Stmt := match s with
  | .ClassDef _ _ _ (b :: _) _ _ _ _ _ _ _ => b
  | s => s
section
variable {X : Cx} {a b : Expr} {fa fb : dE} {pos : Pos}
theorem t_fneU (hu : X.A.units + 66 < cLine) (ha : PEd X a fa) (hb : PEd X b fb) : PTd X (.Compare a [.NotEq] [b] pos) (dTst (dOp (oF fNe) fa fb)) := d_tcmp (op_ne.or (op_neD (by omega))) (oNeU_ok.imp fun _ _ _ => fNe_ok) ha hb (nomark _)
end
end L2.G

set_option maxHeartbeats 2000000
namespace L2.G
open PySem PySem.Spec PyProof.Rows
/-! repr of a list of a text and an empty dict -/
def SysOk (K : PySem.W.Frag) : Prop := ∃ o, K.lookup sysModules = some o ∧ o.cls = .type "dict"
def ReprE (xs : List D) : Prop := ∃ w, xs = [.str w, .dct [] []] ∧ (PyData.list [.str w, .dict []]).showable = true ∧ (PyData.list [.str w, .dict []]).shown.length ≤ sizeLine
def fReprE : List D → PD
  | [.lst xs] => some (D.shOk (.lst xs) ∨ ReprE xs, .str (D.py (.lst xs)).shown)
  | ds => fRepr ds
theorem fReprE_lst {xs : List D} : fReprE [.lst xs] = some (D.shOk (.lst xs) ∨ ReprE xs, .str (D.py (.lst xs)).shown) := rfl
theorem fReprE_tup {xs : List D} : fReprE [.tup xs] = some (D.shOk (.tup xs), .str (D.py (.tup xs)).shown) := rfl
theorem fReprE_int {i : Int} : fReprE [.int i] = some (i.natAbs.log2 < 1920, .str (toString i)) := rfl
theorem fReprE_bl {b : Bool} : fReprE [.bl b] = some (True, .str (if b then "True" else "False")) := rfl
theorem fReprE_non : fReprE [.non] = some (True, .str "None") := rfl
def spReprE (K : PySem.W.Frag) : List V → Hp → VK → Prop := fun xs H Q => ((∃ a d, xs = [.ref a] ∧ Dp K H (.ref a) d ∧ SeqAt.shaped d = true ∧ d.showable = true ∧ d.shown.length ≤ sizeLine ∧ Q (.str d.shown) H) ∨ ((∃ i, xs = [.int i] ∧ i.natAbs.log2 < 1920 ∧ Q (.str (toString i)) H) ∨ (∃ b : Bool, xs = [.bl b] ∧ Q (.str (if b then "True" else "False")) H) ∨ (xs = [.non] ∧ Q (.str "None") H))) ∨
  ∃ a b w, xs = [.ref a] ∧ H a = some (.lst [.str w, .ref b]) ∧ H b = some (.dK []) ∧ (PyData.list [.str w, .dict []]).showable = true ∧ (PyData.list [.str w, .dict []]).shown.length ≤ sizeLine ∧ Q (.str (PyData.list [.str w, .dict []]).shown) H
section
variable {X : Cx} {e : Expr} {es : List Expr} {fr : dA} {p pos : Pos}
theorem call_reprE (sy : SysOk X.K) (hgd : X.A.guards = some []) (hu : X.A.units + 66 < cLine) : CallR X (.builtin "repr") (spReprE X.K) := by
  intro pins s σ H xs us Q I r h
  rcases h with h | h
  · exact call_reprD hgd hu pins s σ H xs us Q I r h
  · obtain ⟨a, b, w, rfl, ha, hb, hw, hl, q⟩ := h
    obtain ⟨u, rfl, ru⟩ := vals1 r
    have e : u = Value.ref a := ru
    subst e
    obtain ⟨_, its, n, rv, hga⟩ := I.hok a _ ha
    obtain ⟨_, nb, vs, kv, ob, esb, ep, hgb, ex, hdat, _, prs, _⟩ := I.hok b _ hb
    have hvs : vs = [] := by
      have kv : Paired _ [] vs := kv
      cases kv
      rfl
    subst hvs
    have hes : esb.toList = [] := by
      cases q2 : esb.toList with
      | nil => rfl
      | cons x r => rw [q2] at prs; cases prs
    obtain ⟨o1, h1, c1⟩ := sy
    have g1 := I.kIn _ _ h1
    have na : a ≠ sysModules := fun z => by
      rw [z] at hga
      rw [hga] at g1
      cases g1
      exact absurd (show ("list" : String) = "dict" by injection c1) (by decide)
    have nb : b ≠ sysModules := fun z => by simp [z] at nb
    cases rv with
    | cons r1 rr =>
      cases rr with
      | cons r2 rr =>
        cases rr
        obtain ⟨t, rfl⟩ := r1
        cases r2
        have rb : Reads s.heap (.ref b) (.dict []) (b :: ([] : List Addr) ++ []) := Reads.dict hgb ex.1 hdat (by rw [hes]; exact ReadsAll.nil) (by rw [hes]; exact ReadsAll.nil)
        have rd : Reads s.heap (.ref a) (.list [.str w, .dict []]) (a :: ([] ++ ((b :: ([] : List Addr) ++ []) ++ []))) := Reads.list hga rfl rfl (ReadsAll.cons (Reads.str w t) (ReadsAll.cons rb ReadsAll.nil))
        refine repr_of_reads' rd hw (fun _ z => ?_) hgd (by have : (PyData.list [.str w, .dict []]).depth ≤ 60 := by simp [PyData.depth, PyData.depthAll, PyData.depthKv]
                                                            omega) (fun _ _ e => e) (fun h' u tk hk => ?_) hl
        · simp only [List.nil_append, List.append_nil, List.cons_append, List.mem_cons, List.not_mem_nil, or_false] at z
          rcases z with z | z
          · exact na z.symm
          · exact nb z.symm
        · exact ⟨.str _, H, I.kept (h' := h') (t' := tk) hk, ⟨_, rfl⟩, q⟩
theorem fReprE_ok {K : PySem.W.Frag} : BltS K (spReprE K) (oG fReprE) := by
  intro t F H T ds vs k Q wt r q f
  have old : ∀ (ds : List D), RepL K F ds vs → oG fRepr ds (fun d => k d T) → spReprE K vs H Q := fun ds r h => .inl (oRepr_ok wt r (fRepr_ok h) f)
  by_cases hx : ∃ xs, ds = [.lst xs]
  · obtain ⟨xs, rfl⟩ := hx
    have q : (D.shOk (.lst xs) ∨ ReprE xs) ∧ k (.str (D.py (.lst xs)).shown) T := q
    obtain ⟨q1, q2⟩ := q
    rcases q1 with q1 | ⟨w, rfl, hw, hl⟩
    · exact old _ r ⟨q1, q2⟩
    · cases r with
      | cons r rr =>
        cases rr
        obtain ⟨a, ws, rfl, h, r⟩ := rep_lst r
        cases r with
        | cons r1 rr =>
          cases rr with
          | cons r2 rr =>
            cases rr
            cases r1
            cases r2 with
            | dct hb hk hv =>
              rename_i b kvs
              have e : kvs = [] := by simpa using hk
              subst e
              exact .inr ⟨a, b, w, rfl, wt.sub _ _ h, wt.sub _ _ hb, hw, hl, f.val wt (.str _) q2⟩
  · refine old _ r ?_
    have e : fReprE ds = fRepr ds := by
      unfold fReprE
      split
      · exact absurd ⟨_, rfl⟩ hx
      · rfl
    unfold oG at q ⊢
    rw [e] at q
    exact q
theorem g_reprE (sy : SysOk X.K) (hgd : X.A.guards = some []) (hu : X.A.units + 66 < cLine) (hm : X.mg "repr" = none) (ha : PAd X (e :: es) fr) (hg : Gl X "repr" := by rfl)
    (he : starEach (e :: es) X.env = (false, eval e X.env) :: starEach es X.env := by rfl) (hp : (backTo pos (starEach es X.env)).any (·.1) = false := by rfl) : PEd X (.Call (.Name "repr" p) (e :: es) [] pos) (dBlt (oG fReprE) fr) := d_blt (call_reprE sy hgd hu) fReprE_ok hm ha boot_repr' hg (by decide) (by decide) he hp
end
end L2.G
namespace L2.G
open PySem PySem.Spec PyProof.Rows
theorem cntC_some {P : Prop} {bs : List Bool} : cntR (fun bs => some (cntT bs)) P (some bs) = some (P, .int (cntT bs)) := rfl
def idxI (bs : List Bool) : Option Int := (idxT bs).map Int.ofNat
theorem idxI_t {r : List Bool} : idxI (true :: r) = some 0 := rfl
theorem idxI_f {r : List Bool} : idxI (false :: r) = (idxI r).map (· + 1) := by
  unfold idxI
  rw [idxT_f]
  cases idxT r <;> rfl
def ixR2 (P : Prop) (o : Option Int) : PD := match o with | some i => some (P, .int i) | none => none
theorem ixR2_some {P : Prop} {i : Int} : ixR2 P (some i) = some (P, .int i) := rfl
theorem idxC_some {P : Prop} {bs : List Bool} : cntR (fun bs => (idxT bs).map Int.ofNat) P (some bs) = ixR2 P (idxI bs) := by
  show (match (idxT bs).map Int.ofNat with | some i => some (P, D.int i) | none => none) = ixR2 P ((idxT bs).map Int.ofNat)
  cases (idxT bs).map Int.ofNat <;> rfl
end L2.G

set_option maxHeartbeats 2000000
namespace L2
open PySem PySem.Spec PyProof.Rows
section
variable {X : Cx} {e : Expr} {es : List Expr} {pos cpos apos : Pos} {t : TA} {te : TE}
/-- a tuple that is made and known as it lies -/
theorem pe_tupF {x1} (h : PA X es t) : PE X (.Tuple es x1 pos) (fun σ H Q => t σ H fun xs H1 => xs.length ≤ sizeLine ∧ ∀ p o, H1 p = none → o.cls = .type "tuple" → o.dict = none → Q (.ref p) (upd H1 p (.frz o (.tup xs)))) := by
  refine ⟨fun pins s σ H Q I hq => ?_⟩
  refine wpAny_Tuple_spliced (thn (h.run pos pins s σ H _ I hq) fun us s1 ⟨xs, H1, I1, r, z, q⟩ => ⟨by rw [← r.length]; exact z, ?_⟩)
  have hf : H1 s1.heap.objs.size = none := I1.hok.fresh (Nat.le_refl _)
  have hp := Heap.get?_push_size s1.heap (o := { cls := .type "tuple", data := .seq us.toArray 0 }) rfl
  exact ⟨.ref s1.heap.objs.size, upd H1 s1.heap.objs.size (.frz { cls := .type "tuple", data := .seq us.toArray 0 } (.tup xs)), I1.laid (t' := s1.toks) (fun b u e => Heap.get?_push_of_some _ e) (Nat.le_refl _) ⟨hp, z, us, r, ⟨_, hp, rfl, _, rfl⟩⟩, rfl, q _ _ hf rfl rfl⟩
def tBMF (r : V → List V → Hp → VK → Prop) (to : TE) (t : TA) : TE := fun σ H Q => to σ H fun x H1 => (∃ p o u, x = .ref p ∧ H1 p = some (.frz o u) ∧ o.cls = .type "tuple" ∧ o.dict = none) ∧ t σ H1 fun xs H2 => r x xs H2 Q
theorem pe_bmF {o : Expr} {to : TE} {name : Str} {id : String} {r : V → List V → Hp → VK → Prop} (slot : Slot "tuple" name id) (hty : typeOf (.builtin id) = pure (.type "method_descriptor")) (hm : MtR X id r) (ho : PE X o to) (ha : PA X (e :: es) t)
    (hbase : attributeBase o name X.env (eval o X.env) = eval o X.env := by rfl)
    (hfew : ((backTo cpos (starEach (e :: es) X.env)).all (fun x => !x.1) && (backToKw cpos (keywordEach [] X.env)).all (fun x => x.1.isSome)
      && decide ((e :: es).length + ([] : List Keyword).length + (if ([] : List Keyword).isEmpty then 0 else 1) < 30)) = true := by rfl)
    (hline : (apos.endLine == cpos.line) = true := by rfl) (hs : starEach (e :: es) X.env = (false, eval e X.env) :: starEach es X.env := by rfl) (hplain : (backTo cpos (starEach es X.env)).any (·.1) = false := by rfl) :
    PE X (.Call (.Attribute o name apos) (e :: es) [] cpos) (tBMF r to t) := by
  refine ⟨fun pins s σ H Q I h => ?_⟩
  refine wpAny_Call_method_late hbase hfew hline rfl (thn (ho.run pins s σ H _ I h) fun v s1 ⟨x, H1, I1, r1, ty, q1⟩ => ?_)
  obtain ⟨p, ob, u, rfl, hp, hc, hd⟩ := ty
  obtain ⟨hg, _⟩ := I1.hok p _ hp
  have e1 : v = Value.ref p := r1
  subst e1
  refine ⟨"tuple", id, PySem.F.plainAttrs_tuple, slot, hty, ⟨ob, hg, hc⟩, fun a ea => by cases ea; exact ⟨ob, hg, hd⟩, ?_⟩
  have hA := ha.run cpos pins s1 σ H1 _ I1 q1
  rw [hs] at hA ⊢
  refine Calls.callWith_builtin (by show (false || (backTo cpos (starEach es X.env)).any (·.1)) = false; rw [hplain] <;> rfl) (Calls.evalArgs_plain ?_)
  exact thn hA fun us s2 ⟨vs, H2, I2, r2, q2⟩ => hm pins s2 σ H2 _ vs _ us Q I2 r1 r2 q2
end
end L2
namespace L2.G
open PySem PySem.Spec PyProof.Rows
def strs? : List D → Option (List Str)
  | [] => some []
  | .str z :: r => (strs? r).map (z :: ·)
  | _ :: _ => none
def idxS (z : Str) : List Str → Option Nat
  | [] => none
  | y :: r => if y = z then some 0 else (idxS z r).map (· + 1)
theorem strs_rep {K : PySem.W.Frag} {F : Hp} : ∀ {ds : List D} {vs : List V} {ys : List Str}, RepL K F ds vs → strs? ds = some ys → vs = ys.map V.str
  | [], _, _, r, e => by cases r; cases e; rfl
  | d :: ds, _, ys, r, e => by
    cases r with
    | cons r1 r2 =>
      cases d with
      | str z =>
        unfold strs? at e
        obtain ⟨zs, e1, rfl⟩ := Option.map_eq_some_iff.mp e
        cases r1
        rw [strs_rep r2 e1]
        rfl
      | _ => exact nomatch e
theorem idxS_at {z : Str} : ∀ {ys : List Str} {j : Nat}, idxS z ys = some j → ys[j]? = some z ∧ ∀ m, m < j → ys[m]? ≠ some z
  | [], _, e => nomatch e
  | y :: r, j, e => by
    unfold idxS at e
    split at e
    · rename_i h
      cases e
      exact ⟨by rw [h]; rfl, fun m hm => absurd hm (Nat.not_lt_zero m)⟩
    · rename_i h
      obtain ⟨i, hi, rfl⟩ := Option.map_eq_some_iff.mp e
      obtain ⟨h1, h2⟩ := idxS_at hi
      refine ⟨h1, fun m hm => ?_⟩
      cases m with
      | zero => exact fun q => h (Option.some.inj q)
      | succ m => exact h2 m (by omega)
def idx? (ds : List D) (y : D) : Option Nat := match y with
  | .str z => (match strs? ds with
    | some ys => idxS z ys
    | none => none)
  | _ => none
/-- (..).index(y), a tuple of texts -/
def dTupIx (fr : dA) (fe : dE) : dE := fun ρ T k => fr ρ T fun as T1 => match vals? as with
  | some ds => ds.length ≤ 1000000 ∧ fe ρ T1 fun y T2 => ∃ j : Nat, idx? ds y = some j ∧ k (.int j) T2
  | none => False
section
variable {X : Cx} {e : Expr} {es : List Expr} {fe : dE} {fr : dA} {pos cpos apos : Pos} {c : Ct} {a b : Expr} {fa fb : dE}
theorem d_tupIx {x1} (ha : PAd X es fr) (he : PEd X e fe) (hb : attributeBase (.Tuple es x1 pos) "index" X.env (eval (.Tuple es x1 pos) X.env) = eval (.Tuple es x1 pos) X.env := by rfl)
    (hfew : ((backTo cpos (starEach [e] X.env)).all (fun x => !x.1) && (backToKw cpos (keywordEach [] X.env)).all (fun x => x.1.isSome)
      && decide (([e]).length + ([] : List Keyword).length + (if ([] : List Keyword).isEmpty then 0 else 1) < 30)) = true := by rfl)
    (hline : (apos.endLine == cpos.line) = true := by rfl) (hs : starEach [e] X.env = (false, eval e X.env) :: starEach [] X.env := by rfl) (hp : (backTo cpos (starEach [] X.env)).any (·.1) = false := by rfl) :
    PEd X (.Call (.Attribute (.Tuple es x1 pos) "index" apos) [e] [] cpos) (dTupIx fr fe) := by
  refine pe_imp (pe_bmF PySem.F.slot_tuple_index PySem.F.type_tuple_index mt_tup_index (pe_tupF ha) (a_cons he a_nil hs) hb hfew hline hs hp) fun σ H Q h => ?_
  obtain ⟨ρ, T, t, F, k, w, h, f⟩ := h
  refine ⟨ρ, T, t, F, _, w, h, fun vs H1 F1 as T1 w1 g1 r1 h1 => ?_⟩
  split at h1
  · rename_i ds ev
    have r := r1.vals ev
    refine ⟨by rw [← r.len]; exact small_line h1.1, fun p o hn hc hd => ⟨⟨p, o, _, rfl, upd_same, hc, hd⟩, ?_⟩⟩
    have g2 := grow_own (t := t) (o := .frz o (.tup vs)) w1.sub hn
    have w2 := wt_own (o := .frz o (.tup vs)) w1 hn
    refine ⟨ρ, T1, t, F1, (fun as T2 => match as with | [.val y] => ∃ j : Nat, idx? ds y = some j ∧ k (.int j) T2 | _ => False), w.grow (g1.trans g2) w2, h1.2, fun us H2 F2 bs T2 w3 g3 r3 h3 => ?_⟩
    match bs, r3, h3 with
    | _, .val (d := y) (v := u) ru .nil, h3 =>
      obtain ⟨j, hj, h3⟩ := h3
      unfold idx? at hj
      split at hj
      · rename_i z
        split at hj
        · rename_i ys hys
          cases ru
          obtain ⟨q1, q2⟩ := idxS_at hj
          have np : t ≠ some p := fun z => by
            obtain ⟨_, vs', hv, _⟩ := w1.tank p z
            rw [hn] at hv
            cases hv
          have hp3 := g3.keep p _ upd_same np
          refine ⟨p, ys, z, j, rfl, rfl, .inl ?_, q1, q2, (f.then (g1.trans (g2.trans g3))).val w3 (.int _) h3⟩
          rw [← strs_rep r hys]
          exact .inr ⟨o, hp3⟩
        · cases hj
      · cases hj
  · exact h1.elim
theorem x_ix (ha : PEx X c a fa) (hb : PEx X c b fb) (hs : PlainIx b := by exact fun _ _ => rfl) : PEx X c (.Subscript a b pos) (dOp (oF fIx) fa fb) :=
  pe_imp (pe_ix (ix_list.or ix_tup) ha hb hs) fun σ H Q h => twox (o := fun x y T k => oF fIx x y fun d => k d T) (R := fun x y H Q => rIxL X.K x y H Q ∨ rIxT X.K x y H Q) (fun w r1 r2 q f => oIx_ok w r1 r2 (fIx_ok q) f) h
end
def tixK (o : Option Nat) (k : D → Prop) (fz : Fz k := ⟨⟩) : Prop := ∃ j : Nat, o = some j ∧ k (.int j)
theorem tixK_go {j : Nat} {k : D → Prop} : tixK (some j) k = k (.int j) := propext ⟨fun ⟨_, e, h⟩ => by cases e; exact h, fun h => ⟨j, rfl, h⟩⟩
theorem h_tupIx {fr : dA} {fe : dE} {ρ : En} {T : Tk} {k : KD} : dTupIx fr fe ρ T k = fr ρ T fun as T1 => sqK (vals? as) fun ds => ds.length ≤ 1000000 ∧ fe ρ T1 fun y T2 => tixK (idx? ds y) fun d => k d T2 := propext Iff.rfl
end L2.G

namespace L2.G
open PySem PySem.Spec PyProof.Rows
def topS (i : Nat) : Stmt := PySem.Challenge.pw_drawarms_k17_maps_and_triples_refused.main.body.getD i (.Pass ⟨0, 0, 0, 0⟩)
def k_UNITS : D := (.tup [(.tup [(.int 1), (.int 0)]), (.tup [(.int 0), (.int 1)]), (.tup [(.int (-1)), (.int 0)]), (.tup [(.int 0), (.int (-1))])])
def k_ZERO : D := (.tup [(.int 0), (.int 0)])
def k_FAR : D := (.tup [(.int 1), (.int 0), (.int 0)])
def k_MANY : D := (.int 3)
abbrev st_InvalidComplex__init : Stmt := initS (topS 3)
abbrev st_InvalidPlace__init : Stmt := initS (topS 5)
abbrev st_InvalidRound__init : Stmt := initS (topS 7)
abbrev st_Same__init : Stmt := initS (topS 10)
abbrev st_InvalidMap__init : Stmt := initS (topS 8)
abbrev st_InvalidFlag__init : Stmt := initS (topS 9)
abbrev st_InvalidTriple__init : Stmt := initS (topS 11)
def is_InvalidNumbers : Str → Option Bool := fun nm => if nm = "NoMap" then some false else if nm = "ArmError" then some false else if nm = "InvalidComplex" then some false else if nm = "InvalidPlace" then some false else if nm = "InvalidRound" then some false else if nm = "Same" then some false else if nm = "InvalidMap" then some false else if nm = "InvalidFlag" then some false else if nm = "InvalidTriple" then some false else none
theorem is_InvalidNumbers_NoMap : is_InvalidNumbers "NoMap" = some false := by decide +kernel
theorem is_InvalidNumbers_InvalidComplex : is_InvalidNumbers "InvalidComplex" = some false := by decide +kernel
theorem is_InvalidNumbers_InvalidPlace : is_InvalidNumbers "InvalidPlace" = some false := by decide +kernel
theorem is_InvalidNumbers_InvalidRound : is_InvalidNumbers "InvalidRound" = some false := by decide +kernel
theorem is_InvalidNumbers_Same : is_InvalidNumbers "Same" = some false := by decide +kernel
theorem is_InvalidNumbers_InvalidMap : is_InvalidNumbers "InvalidMap" = some false := by decide +kernel
theorem is_InvalidNumbers_InvalidFlag : is_InvalidNumbers "InvalidFlag" = some false := by decide +kernel
theorem is_InvalidNumbers_InvalidTriple : is_InvalidNumbers "InvalidTriple" = some false := by decide +kernel
def is_InvalidRow : Str → Option Bool := fun nm => if nm = "NoMap" then some false else if nm = "ArmError" then some false else if nm = "InvalidComplex" then some false else if nm = "InvalidPlace" then some false else if nm = "InvalidRound" then some false else if nm = "Same" then some false else if nm = "InvalidMap" then some false else if nm = "InvalidFlag" then some false else if nm = "InvalidTriple" then some false else none
theorem is_InvalidRow_NoMap : is_InvalidRow "NoMap" = some false := by decide +kernel
theorem is_InvalidRow_InvalidComplex : is_InvalidRow "InvalidComplex" = some false := by decide +kernel
theorem is_InvalidRow_InvalidPlace : is_InvalidRow "InvalidPlace" = some false := by decide +kernel
theorem is_InvalidRow_InvalidRound : is_InvalidRow "InvalidRound" = some false := by decide +kernel
theorem is_InvalidRow_Same : is_InvalidRow "Same" = some false := by decide +kernel
theorem is_InvalidRow_InvalidMap : is_InvalidRow "InvalidMap" = some false := by decide +kernel
theorem is_InvalidRow_InvalidFlag : is_InvalidRow "InvalidFlag" = some false := by decide +kernel
theorem is_InvalidRow_InvalidTriple : is_InvalidRow "InvalidTriple" = some false := by decide +kernel
def is_NoMap : Str → Option Bool := fun nm => if nm = "NoMap" then some true else if nm = "ArmError" then some false else if nm = "InvalidComplex" then some false else if nm = "InvalidPlace" then some false else if nm = "InvalidRound" then some false else if nm = "Same" then some false else if nm = "InvalidMap" then some false else if nm = "InvalidFlag" then some false else if nm = "InvalidTriple" then some false else none
theorem is_NoMap_NoMap : is_NoMap "NoMap" = some true := by decide +kernel
theorem is_NoMap_InvalidComplex : is_NoMap "InvalidComplex" = some false := by decide +kernel
theorem is_NoMap_InvalidPlace : is_NoMap "InvalidPlace" = some false := by decide +kernel
theorem is_NoMap_InvalidRound : is_NoMap "InvalidRound" = some false := by decide +kernel
theorem is_NoMap_Same : is_NoMap "Same" = some false := by decide +kernel
theorem is_NoMap_InvalidMap : is_NoMap "InvalidMap" = some false := by decide +kernel
theorem is_NoMap_InvalidFlag : is_NoMap "InvalidFlag" = some false := by decide +kernel
theorem is_NoMap_InvalidTriple : is_NoMap "InvalidTriple" = some false := by decide +kernel
def is_InvalidTriple : Str → Option Bool := fun nm => if nm = "NoMap" then some false else if nm = "ArmError" then some false else if nm = "InvalidComplex" then some false else if nm = "InvalidPlace" then some false else if nm = "InvalidRound" then some false else if nm = "Same" then some false else if nm = "InvalidMap" then some false else if nm = "InvalidFlag" then some false else if nm = "InvalidTriple" then some true else none
theorem is_InvalidTriple_NoMap : is_InvalidTriple "NoMap" = some false := by decide +kernel
theorem is_InvalidTriple_InvalidComplex : is_InvalidTriple "InvalidComplex" = some false := by decide +kernel
theorem is_InvalidTriple_InvalidPlace : is_InvalidTriple "InvalidPlace" = some false := by decide +kernel
theorem is_InvalidTriple_InvalidRound : is_InvalidTriple "InvalidRound" = some false := by decide +kernel
theorem is_InvalidTriple_Same : is_InvalidTriple "Same" = some false := by decide +kernel
theorem is_InvalidTriple_InvalidMap : is_InvalidTriple "InvalidMap" = some false := by decide +kernel
theorem is_InvalidTriple_InvalidFlag : is_InvalidTriple "InvalidFlag" = some false := by decide +kernel
theorem is_InvalidTriple_InvalidTriple : is_InvalidTriple "InvalidTriple" = some true := by decide +kernel
def is_Same : Str → Option Bool := fun nm => if nm = "NoMap" then some false else if nm = "ArmError" then some false else if nm = "InvalidComplex" then some false else if nm = "InvalidPlace" then some false else if nm = "InvalidRound" then some false else if nm = "Same" then some true else if nm = "InvalidMap" then some false else if nm = "InvalidFlag" then some false else if nm = "InvalidTriple" then some false else none
theorem is_Same_NoMap : is_Same "NoMap" = some false := by decide +kernel
theorem is_Same_InvalidComplex : is_Same "InvalidComplex" = some false := by decide +kernel
theorem is_Same_InvalidPlace : is_Same "InvalidPlace" = some false := by decide +kernel
theorem is_Same_InvalidRound : is_Same "InvalidRound" = some false := by decide +kernel
theorem is_Same_Same : is_Same "Same" = some true := by decide +kernel
theorem is_Same_InvalidMap : is_Same "InvalidMap" = some false := by decide +kernel
theorem is_Same_InvalidFlag : is_Same "InvalidFlag" = some false := by decide +kernel
theorem is_Same_InvalidTriple : is_Same "InvalidTriple" = some false := by decide +kernel
def is_InvalidRound : Str → Option Bool := fun nm => if nm = "NoMap" then some false else if nm = "ArmError" then some false else if nm = "InvalidComplex" then some false else if nm = "InvalidPlace" then some false else if nm = "InvalidRound" then some true else if nm = "Same" then some false else if nm = "InvalidMap" then some false else if nm = "InvalidFlag" then some false else if nm = "InvalidTriple" then some false else none
theorem is_InvalidRound_NoMap : is_InvalidRound "NoMap" = some false := by decide +kernel
theorem is_InvalidRound_InvalidComplex : is_InvalidRound "InvalidComplex" = some false := by decide +kernel
theorem is_InvalidRound_InvalidPlace : is_InvalidRound "InvalidPlace" = some false := by decide +kernel
theorem is_InvalidRound_InvalidRound : is_InvalidRound "InvalidRound" = some true := by decide +kernel
theorem is_InvalidRound_Same : is_InvalidRound "Same" = some false := by decide +kernel
theorem is_InvalidRound_InvalidMap : is_InvalidRound "InvalidMap" = some false := by decide +kernel
theorem is_InvalidRound_InvalidFlag : is_InvalidRound "InvalidFlag" = some false := by decide +kernel
theorem is_InvalidRound_InvalidTriple : is_InvalidRound "InvalidTriple" = some false := by decide +kernel
def is_InvalidPlace : Str → Option Bool := fun nm => if nm = "NoMap" then some false else if nm = "ArmError" then some false else if nm = "InvalidComplex" then some false else if nm = "InvalidPlace" then some true else if nm = "InvalidRound" then some false else if nm = "Same" then some false else if nm = "InvalidMap" then some false else if nm = "InvalidFlag" then some false else if nm = "InvalidTriple" then some false else none
theorem is_InvalidPlace_NoMap : is_InvalidPlace "NoMap" = some false := by decide +kernel
theorem is_InvalidPlace_InvalidComplex : is_InvalidPlace "InvalidComplex" = some false := by decide +kernel
theorem is_InvalidPlace_InvalidPlace : is_InvalidPlace "InvalidPlace" = some true := by decide +kernel
theorem is_InvalidPlace_InvalidRound : is_InvalidPlace "InvalidRound" = some false := by decide +kernel
theorem is_InvalidPlace_Same : is_InvalidPlace "Same" = some false := by decide +kernel
theorem is_InvalidPlace_InvalidMap : is_InvalidPlace "InvalidMap" = some false := by decide +kernel
theorem is_InvalidPlace_InvalidFlag : is_InvalidPlace "InvalidFlag" = some false := by decide +kernel
theorem is_InvalidPlace_InvalidTriple : is_InvalidPlace "InvalidTriple" = some false := by decide +kernel
def is_InvalidMap : Str → Option Bool := fun nm => if nm = "NoMap" then some false else if nm = "ArmError" then some false else if nm = "InvalidComplex" then some false else if nm = "InvalidPlace" then some false else if nm = "InvalidRound" then some false else if nm = "Same" then some false else if nm = "InvalidMap" then some true else if nm = "InvalidFlag" then some false else if nm = "InvalidTriple" then some false else none
theorem is_InvalidMap_NoMap : is_InvalidMap "NoMap" = some false := by decide +kernel
theorem is_InvalidMap_InvalidComplex : is_InvalidMap "InvalidComplex" = some false := by decide +kernel
theorem is_InvalidMap_InvalidPlace : is_InvalidMap "InvalidPlace" = some false := by decide +kernel
theorem is_InvalidMap_InvalidRound : is_InvalidMap "InvalidRound" = some false := by decide +kernel
theorem is_InvalidMap_Same : is_InvalidMap "Same" = some false := by decide +kernel
theorem is_InvalidMap_InvalidMap : is_InvalidMap "InvalidMap" = some true := by decide +kernel
theorem is_InvalidMap_InvalidFlag : is_InvalidMap "InvalidFlag" = some false := by decide +kernel
theorem is_InvalidMap_InvalidTriple : is_InvalidMap "InvalidTriple" = some false := by decide +kernel
def is_InvalidComplex : Str → Option Bool := fun nm => if nm = "NoMap" then some false else if nm = "ArmError" then some false else if nm = "InvalidComplex" then some true else if nm = "InvalidPlace" then some false else if nm = "InvalidRound" then some false else if nm = "Same" then some false else if nm = "InvalidMap" then some false else if nm = "InvalidFlag" then some false else if nm = "InvalidTriple" then some false else none
theorem is_InvalidComplex_NoMap : is_InvalidComplex "NoMap" = some false := by decide +kernel
theorem is_InvalidComplex_InvalidComplex : is_InvalidComplex "InvalidComplex" = some true := by decide +kernel
theorem is_InvalidComplex_InvalidPlace : is_InvalidComplex "InvalidPlace" = some false := by decide +kernel
theorem is_InvalidComplex_InvalidRound : is_InvalidComplex "InvalidRound" = some false := by decide +kernel
theorem is_InvalidComplex_Same : is_InvalidComplex "Same" = some false := by decide +kernel
theorem is_InvalidComplex_InvalidMap : is_InvalidComplex "InvalidMap" = some false := by decide +kernel
theorem is_InvalidComplex_InvalidFlag : is_InvalidComplex "InvalidFlag" = some false := by decide +kernel
theorem is_InvalidComplex_InvalidTriple : is_InvalidComplex "InvalidTriple" = some false := by decide +kernel
def is_InvalidFlag : Str → Option Bool := fun nm => if nm = "NoMap" then some false else if nm = "ArmError" then some false else if nm = "InvalidComplex" then some false else if nm = "InvalidPlace" then some false else if nm = "InvalidRound" then some false else if nm = "Same" then some false else if nm = "InvalidMap" then some false else if nm = "InvalidFlag" then some true else if nm = "InvalidTriple" then some false else none
theorem is_InvalidFlag_NoMap : is_InvalidFlag "NoMap" = some false := by decide +kernel
theorem is_InvalidFlag_InvalidComplex : is_InvalidFlag "InvalidComplex" = some false := by decide +kernel
theorem is_InvalidFlag_InvalidPlace : is_InvalidFlag "InvalidPlace" = some false := by decide +kernel
theorem is_InvalidFlag_InvalidRound : is_InvalidFlag "InvalidRound" = some false := by decide +kernel
theorem is_InvalidFlag_Same : is_InvalidFlag "Same" = some false := by decide +kernel
theorem is_InvalidFlag_InvalidMap : is_InvalidFlag "InvalidMap" = some false := by decide +kernel
theorem is_InvalidFlag_InvalidFlag : is_InvalidFlag "InvalidFlag" = some true := by decide +kernel
theorem is_InvalidFlag_InvalidTriple : is_InvalidFlag "InvalidTriple" = some false := by decide +kernel
def is_ValueError : Str → Option Bool := fun nm => if nm = "NoMap" then some true else if nm = "ArmError" then some true else if nm = "InvalidComplex" then some true else if nm = "InvalidPlace" then some true else if nm = "InvalidRound" then some true else if nm = "Same" then some true else if nm = "InvalidMap" then some true else if nm = "InvalidFlag" then some true else if nm = "InvalidTriple" then some true else none
theorem is_ValueError_NoMap : is_ValueError "NoMap" = some true := by decide +kernel
theorem is_ValueError_InvalidComplex : is_ValueError "InvalidComplex" = some true := by decide +kernel
theorem is_ValueError_InvalidPlace : is_ValueError "InvalidPlace" = some true := by decide +kernel
theorem is_ValueError_InvalidRound : is_ValueError "InvalidRound" = some true := by decide +kernel
theorem is_ValueError_Same : is_ValueError "Same" = some true := by decide +kernel
theorem is_ValueError_InvalidMap : is_ValueError "InvalidMap" = some true := by decide +kernel
theorem is_ValueError_InvalidFlag : is_ValueError "InvalidFlag" = some true := by decide +kernel
theorem is_ValueError_InvalidTriple : is_ValueError "InvalidTriple" = some true := by decide +kernel
def gv_given : Str → Bool := fun nm => if nm = "InvalidComplex" then true else if nm = "InvalidPlace" then true else if nm = "InvalidRound" then true else if nm = "Same" then true else if nm = "InvalidMap" then true else if nm = "InvalidFlag" then true else false
theorem gv_given_InvalidComplex : gv_given "InvalidComplex" = true := by decide +kernel
theorem gv_given_InvalidPlace : gv_given "InvalidPlace" = true := by decide +kernel
theorem gv_given_InvalidRound : gv_given "InvalidRound" = true := by decide +kernel
theorem gv_given_Same : gv_given "Same" = true := by decide +kernel
theorem gv_given_InvalidMap : gv_given "InvalidMap" = true := by decide +kernel
theorem gv_given_InvalidFlag : gv_given "InvalidFlag" = true := by decide +kernel
def gv_index : Str → Bool := fun nm => if nm = "InvalidTriple" then true else false
theorem gv_index_InvalidTriple : gv_index "InvalidTriple" = true := by decide +kernel
def mt_ArmError : Str → Option Bool := fun nm => if nm = "ArmError" then some true else if nm = "InvalidComplex" then some true else if nm = "InvalidNumbers" then some true else if nm = "InvalidPlace" then some true else if nm = "InvalidRow" then some true else if nm = "InvalidRound" then some true else if nm = "InvalidMap" then some true else if nm = "InvalidFlag" then some true else if nm = "Same" then some true else if nm = "InvalidTriple" then some true else if nm = "NoMap" then some true else none
abbrev st_is_whole : Stmt := topS 14
theorem sc_is_whole : FnScope ["value"] ["value"] (defScope st_is_whole) := ⟨rfl, rfl, rfl, by decide +kernel, rfl, by decide +kernel, by decide +kernel⟩
def b_is_whole : dS := sRet (dAndV (dIsi .int (dVar 0)) (dNotV (dIsi .bool (dVar 0))))
def sm_is_whole : Sem := semOf ["value"] b_is_whole
theorem e_is_whole (a0 : SV) (T : Tk) (k : KD) : sm_is_whole [a0] T k = b_is_whole { nx := fun _ T => k .non T, rt := k, bk := fun _ _ => False, ct := fun _ _ => False } [some a0] T := rfl
abbrev st_are_wholes : Stmt := topS 15
theorem sc_are_wholes : FnScope ["value", "many", "number"] ["value", "many"] (defScope st_are_wholes) := ⟨rfl, rfl, rfl, by decide +kernel, rfl, by decide +kernel, by decide +kernel⟩
def b_are_wholes : dS := sRet (dAndV (dIsi .tuple (dVar 0)) (dAndV (dOp (oF fEq) (dBlt (oG fLen) (aCons (dVar 0) (aNil))) (dVar 1)) (dBlt (oG fAll) (aCons (dLc [2] (iQ (dVar 0)) (cN 2) dYes (dCall 1 sm_is_whole (aCons (dVar 2) (aNil)))) (aNil)))))
def sm_are_wholes : Sem := semOf ["value", "many", "number"] b_are_wholes
theorem e_are_wholes (a0 a1 : SV) (T : Tk) (k : KD) : sm_are_wholes [a0, a1] T k = b_are_wholes { nx := fun _ T => k .non T, rt := k, bk := fun _ _ => False, ct := fun _ _ => False } [some a0, some a1, none] T := rfl
abbrev st_divisor_of : Stmt := topS 16
theorem sc_divisor_of : FnScope ["numbers", "found", "number"] ["numbers"] (defScope st_divisor_of) := ⟨rfl, rfl, rfl, by decide +kernel, rfl, by decide +kernel, by decide +kernel⟩
def b_divisor_of : dS := sSeq (sAsg (dC (.int 0)) (gN 1)) (sSeq (sForI (iQ (dVar 0)) (gN 2) (sAsg (dBlt (oG (fI2 iGcd)) (aCons (dVar 1) (aCons (dVar 2) (aNil)))) (gN 1))) (sRet (dVar 1)))
def sm_divisor_of : Sem := semOf ["numbers", "found", "number"] b_divisor_of
theorem e_divisor_of (a0 : SV) (T : Tk) (k : KD) : sm_divisor_of [a0] T k = b_divisor_of { nx := fun _ T => k .non T, rt := k, bk := fun _ _ => False, ct := fun _ _ => False } [some a0, none, none] T := rfl
abbrev st_lowest : Stmt := topS 17
theorem sc_lowest : FnScope ["numbers", "divisor", "number"] ["numbers"] (defScope st_lowest) := ⟨rfl, rfl, rfl, by decide +kernel, rfl, by decide +kernel, by decide +kernel⟩
def b_lowest : dS := sSeq (sAsg (dCall 1 sm_divisor_of (aCons (dVar 0) (aNil))) (gN 1)) (sRet (dBlt (oG fTuple) (aCons (dLc [2] (iQ (dVar 0)) (cN 2) dYes (dOp (oF fDiv) (dVar 2) (dVar 1))) (aNil))))
def sm_lowest : Sem := semOf ["numbers", "divisor", "number"] b_lowest
theorem e_lowest (a0 : SV) (T : Tk) (k : KD) : sm_lowest [a0] T k = b_lowest { nx := fun _ T => k .non T, rt := k, bk := fun _ _ => False, ct := fun _ _ => False } [some a0, none, none] T := rfl
abbrev st_is_lowest : Stmt := topS 18
theorem sc_is_lowest : FnScope ["numbers"] ["numbers"] (defScope st_is_lowest) := ⟨rfl, rfl, rfl, by decide +kernel, rfl, by decide +kernel, by decide +kernel⟩
def b_is_lowest : dS := sRet (dOp (oF fEq) (dCall 1 sm_divisor_of (aCons (dVar 0) (aNil))) (dC (.int 1)))
def sm_is_lowest : Sem := semOf ["numbers"] b_is_lowest
theorem e_is_lowest (a0 : SV) (T : Tk) (k : KD) : sm_is_lowest [a0] T k = b_is_lowest { nx := fun _ T => k .non T, rt := k, bk := fun _ _ => False, ct := fun _ _ => False } [some a0] T := rfl
abbrev st_is_led_up : Stmt := topS 19
theorem sc_is_led_up : FnScope ["numbers", "number"] ["numbers"] (defScope st_is_led_up) := ⟨rfl, rfl, rfl, by decide +kernel, rfl, by decide +kernel, by decide +kernel⟩
def b_is_led_up : dS := sSeq (sForI (iQ (dVar 0)) (gN 1) (sIf (dTst (dOp (oF fNe) (dVar 1) (dC (.int 0)))) (sRet (dOp (oF fGt) (dVar 1) (dC (.int 0)))) ((fun k ρ T => k.nx ρ T)))) (sRet (dC (.bl false)))
def sm_is_led_up : Sem := semOf ["numbers", "number"] b_is_led_up
theorem e_is_led_up (a0 : SV) (T : Tk) (k : KD) : sm_is_led_up [a0] T k = b_is_led_up { nx := fun _ T => k .non T, rt := k, bk := fun _ _ => False, ct := fun _ _ => False } [some a0, none] T := rfl
abbrev st_first_above : Stmt := topS 20
theorem sc_first_above : FnScope ["numbers", "found", "number"] ["numbers"] (defScope st_first_above) := ⟨rfl, rfl, rfl, by decide +kernel, rfl, by decide +kernel, by decide +kernel⟩
def b_first_above : dS := sSeq (sAsg (dCall 1 sm_lowest (aCons (dVar 0) (aNil))) (gN 1)) (sRet (dIf (dTst (dCall 1 sm_is_led_up (aCons (dVar 1) (aNil)))) (dVar 1) (dBlt (oG fTuple) (aCons (dLc [2] (iQ (dVar 1)) (cN 2) dYes (dNeg (dVar 2))) (aNil)))))
def sm_first_above : Sem := semOf ["numbers", "found", "number"] b_first_above
theorem e_first_above (a0 : SV) (T : Tk) (k : KD) : sm_first_above [a0] T k = b_first_above { nx := fun _ T => k .non T, rt := k, bk := fun _ _ => False, ct := fun _ _ => False } [some a0, none, none] T := rfl
abbrev st_is_complex : Stmt := topS 24
theorem sc_is_complex : FnScope ["value"] ["value"] (defScope st_is_complex) := ⟨rfl, rfl, rfl, by decide +kernel, rfl, by decide +kernel, by decide +kernel⟩
def b_is_complex : dS := sRet (dCall 2 sm_are_wholes (aCons (dVar 0) (aCons (dC (.int 2)) (aNil))))
def sm_is_complex : Sem := semOf ["value"] b_is_complex
theorem e_is_complex (a0 : SV) (T : Tk) (k : KD) : sm_is_complex [a0] T k = b_is_complex { nx := fun _ T => k .non T, rt := k, bk := fun _ _ => False, ct := fun _ _ => False } [some a0] T := rfl
abbrev st_check_complex : Stmt := topS 25
theorem sc_check_complex : FnScope ["value"] ["value"] (defScope st_check_complex) := ⟨rfl, rfl, rfl, by decide +kernel, rfl, by decide +kernel, by decide +kernel⟩
def b_check_complex (r : RX) : dS := sIf (dNot (dTst (dCall 1 sm_is_complex (aCons (dVar 0) (aNil))))) (sRaise1 "InvalidComplex" "given" (dVar 0) r) ((fun k ρ T => k.nx ρ T))
def se_check_complex : SemX := semX ["value"] b_check_complex
theorem ex_check_complex (r : RK) (a0 : SV) (T : Tk) (k : KD) : se_check_complex r [a0] T k = b_check_complex (fun e _ T => r e T) { nx := fun _ T => k .non T, rt := k, bk := fun _ _ => False, ct := fun _ _ => False } [some a0] T := rfl
abbrev st_plus : Stmt := topS 26
theorem sc_plus : FnScope ["number", "other"] ["number", "other"] (defScope st_plus) := ⟨rfl, rfl, rfl, by decide +kernel, rfl, by decide +kernel, by decide +kernel⟩
def b_plus : dS := sRet (dTup (aCons (dOp (oF fAdd) (dOp (oF fIx) (dVar 0) (dC (.int 0))) (dOp (oF fIx) (dVar 1) (dC (.int 0)))) (aCons (dOp (oF fAdd) (dOp (oF fIx) (dVar 0) (dC (.int 1))) (dOp (oF fIx) (dVar 1) (dC (.int 1)))) (aNil))))
def sm_plus : Sem := semOf ["number", "other"] b_plus
theorem e_plus (a0 a1 : SV) (T : Tk) (k : KD) : sm_plus [a0, a1] T k = b_plus { nx := fun _ T => k .non T, rt := k, bk := fun _ _ => False, ct := fun _ _ => False } [some a0, some a1] T := rfl
abbrev st_minus : Stmt := topS 27
theorem sc_minus : FnScope ["number", "other"] ["number", "other"] (defScope st_minus) := ⟨rfl, rfl, rfl, by decide +kernel, rfl, by decide +kernel, by decide +kernel⟩
def b_minus : dS := sRet (dTup (aCons (dOp (oF fSub) (dOp (oF fIx) (dVar 0) (dC (.int 0))) (dOp (oF fIx) (dVar 1) (dC (.int 0)))) (aCons (dOp (oF fSub) (dOp (oF fIx) (dVar 0) (dC (.int 1))) (dOp (oF fIx) (dVar 1) (dC (.int 1)))) (aNil))))
def sm_minus : Sem := semOf ["number", "other"] b_minus
theorem e_minus (a0 a1 : SV) (T : Tk) (k : KD) : sm_minus [a0, a1] T k = b_minus { nx := fun _ T => k .non T, rt := k, bk := fun _ _ => False, ct := fun _ _ => False } [some a0, some a1] T := rfl
abbrev st_times : Stmt := topS 28
theorem sc_times : FnScope ["number", "other"] ["number", "other"] (defScope st_times) := ⟨rfl, rfl, rfl, by decide +kernel, rfl, by decide +kernel, by decide +kernel⟩
def b_times : dS := sRet (dTup (aCons (dOp (oF fSub) (dOp (oF fMul) (dOp (oF fIx) (dVar 0) (dC (.int 0))) (dOp (oF fIx) (dVar 1) (dC (.int 0)))) (dOp (oF fMul) (dOp (oF fIx) (dVar 0) (dC (.int 1))) (dOp (oF fIx) (dVar 1) (dC (.int 1))))) (aCons (dOp (oF fAdd) (dOp (oF fMul) (dOp (oF fIx) (dVar 0) (dC (.int 0))) (dOp (oF fIx) (dVar 1) (dC (.int 1)))) (dOp (oF fMul) (dOp (oF fIx) (dVar 0) (dC (.int 1))) (dOp (oF fIx) (dVar 1) (dC (.int 0))))) (aNil))))
def sm_times : Sem := semOf ["number", "other"] b_times
theorem e_times (a0 a1 : SV) (T : Tk) (k : KD) : sm_times [a0, a1] T k = b_times { nx := fun _ T => k .non T, rt := k, bk := fun _ _ => False, ct := fun _ _ => False } [some a0, some a1] T := rfl
abbrev st_scaled : Stmt := topS 29
theorem sc_scaled : FnScope ["number", "factor"] ["number", "factor"] (defScope st_scaled) := ⟨rfl, rfl, rfl, by decide +kernel, rfl, by decide +kernel, by decide +kernel⟩
def b_scaled : dS := sRet (dTup (aCons (dOp (oF fMul) (dVar 1) (dOp (oF fIx) (dVar 0) (dC (.int 0)))) (aCons (dOp (oF fMul) (dVar 1) (dOp (oF fIx) (dVar 0) (dC (.int 1)))) (aNil))))
def sm_scaled : Sem := semOf ["number", "factor"] b_scaled
theorem e_scaled (a0 a1 : SV) (T : Tk) (k : KD) : sm_scaled [a0, a1] T k = b_scaled { nx := fun _ T => k .non T, rt := k, bk := fun _ _ => False, ct := fun _ _ => False } [some a0, some a1] T := rfl
abbrev st_turned_over : Stmt := topS 30
theorem sc_turned_over : FnScope ["number"] ["number"] (defScope st_turned_over) := ⟨rfl, rfl, rfl, by decide +kernel, rfl, by decide +kernel, by decide +kernel⟩
def b_turned_over : dS := sRet (dTup (aCons (dOp (oF fIx) (dVar 0) (dC (.int 0))) (aCons (dNeg (dOp (oF fIx) (dVar 0) (dC (.int 1)))) (aNil))))
def sm_turned_over : Sem := semOf ["number"] b_turned_over
theorem e_turned_over (a0 : SV) (T : Tk) (k : KD) : sm_turned_over [a0] T k = b_turned_over { nx := fun _ T => k .non T, rt := k, bk := fun _ _ => False, ct := fun _ _ => False } [some a0] T := rfl
abbrev st_square_size : Stmt := topS 31
theorem sc_square_size : FnScope ["number"] ["number"] (defScope st_square_size) := ⟨rfl, rfl, rfl, by decide +kernel, rfl, by decide +kernel, by decide +kernel⟩
def b_square_size : dS := sRet (dOp (oF fAdd) (dOp (oF fMul) (dOp (oF fIx) (dVar 0) (dC (.int 0))) (dOp (oF fIx) (dVar 0) (dC (.int 0)))) (dOp (oF fMul) (dOp (oF fIx) (dVar 0) (dC (.int 1))) (dOp (oF fIx) (dVar 0) (dC (.int 1)))))
def sm_square_size : Sem := semOf ["number"] b_square_size
theorem e_square_size (a0 : SV) (T : Tk) (k : KD) : sm_square_size [a0] T k = b_square_size { nx := fun _ T => k .non T, rt := k, bk := fun _ _ => False, ct := fun _ _ => False } [some a0] T := rfl
abbrev st_unit_for : Stmt := topS 32
theorem sc_unit_for : FnScope ["number", "unit", "found"] ["number"] (defScope st_unit_for) := ⟨rfl, rfl, rfl, by decide +kernel, rfl, by decide +kernel, by decide +kernel⟩
def b_unit_for : dS := sSeq (sForI (iQ (dSlQ (dC k_UNITS) (fun _ T k => k none T) (pSome (dC (.int 3))))) (gN 1) (sSeq (sAsg (dCall 2 sm_times (aCons (dVar 0) (aCons (dVar 1) (aNil)))) (gN 2)) (sIf (dAnd (dTst (dOp (oF fGt) (dOp (oF fIx) (dVar 2) (dC (.int 0))) (dC (.int 0)))) (dTst (dOp (oF fGe) (dOp (oF fIx) (dVar 2) (dC (.int 1))) (dC (.int 0))))) (sRet (dVar 1)) ((fun k ρ T => k.nx ρ T))))) (sRet (dOp (oF fIx) (dC k_UNITS) (dC (.int 3))))
def sm_unit_for : Sem := semOf ["number", "unit", "found"] b_unit_for
theorem e_unit_for (a0 : SV) (T : Tk) (k : KD) : sm_unit_for [a0] T k = b_unit_for { nx := fun _ T => k .non T, rt := k, bk := fun _ _ => False, ct := fun _ _ => False } [some a0, none, none] T := rfl
abbrev st_nearest : Stmt := topS 33
theorem sc_nearest : FnScope ["number", "below"] ["number", "below"] (defScope st_nearest) := ⟨rfl, rfl, rfl, by decide +kernel, rfl, by decide +kernel, by decide +kernel⟩
def b_nearest : dS := sRet (dOp (oF fDiv) (dOp (oF fAdd) (dOp (oF fMul) (dC (.int 2)) (dVar 0)) (dVar 1)) (dOp (oF fMul) (dC (.int 2)) (dVar 1)))
def sm_nearest : Sem := semOf ["number", "below"] b_nearest
theorem e_nearest (a0 a1 : SV) (T : Tk) (k : KD) : sm_nearest [a0, a1] T k = b_nearest { nx := fun _ T => k .non T, rt := k, bk := fun _ _ => False, ct := fun _ _ => False } [some a0, some a1] T := rfl
abbrev st_divisor_of_two : Stmt := topS 34
theorem sc_divisor_of_two : FnScope ["number", "other", "one", "two", "product", "whole"] ["number", "other"] (defScope st_divisor_of_two) := ⟨rfl, rfl, rfl, by decide +kernel, rfl, by decide +kernel, by decide +kernel⟩
def b_divisor_of_two : dS := sSeq (sPar 2 3 (aCons (dVar 0) (aCons (dVar 1) (aNil)))) (sSeq (sWhile (dTst (dOp (oF fNe) (dVar 3) (dC k_ZERO))) (sSeq (sAsg (dCall 2 sm_times (aCons (dVar 2) (aCons (dCall 1 sm_turned_over (aCons (dVar 3) (aNil))) (aNil)))) (gN 4)) (sSeq (sAsg (dTup (aCons (dCall 2 sm_nearest (aCons (dOp (oF fIx) (dVar 4) (dC (.int 0))) (aCons (dCall 1 sm_square_size (aCons (dVar 3) (aNil))) (aNil)))) (aCons (dCall 2 sm_nearest (aCons (dOp (oF fIx) (dVar 4) (dC (.int 1))) (aCons (dCall 1 sm_square_size (aCons (dVar 3) (aNil))) (aNil)))) (aNil)))) (gN 5)) (sPar 2 3 (aCons (dVar 3) (aCons (dCall 2 sm_minus (aCons (dVar 2) (aCons (dCall 2 sm_times (aCons (dVar 5) (aCons (dVar 3) (aNil)))) (aNil)))) (aNil))))))) (sRet (dVar 2)))
def sm_divisor_of_two : Sem := semOf ["number", "other", "one", "two", "product", "whole"] b_divisor_of_two
theorem e_divisor_of_two (a0 a1 : SV) (T : Tk) (k : KD) : sm_divisor_of_two [a0, a1] T k = b_divisor_of_two { nx := fun _ T => k .non T, rt := k, bk := fun _ _ => False, ct := fun _ _ => False } [some a0, some a1, none, none, none, none] T := rfl
abbrev st_divisor_of_all : Stmt := topS 35
theorem sc_divisor_of_all : FnScope ["numbers", "found", "number"] ["numbers"] (defScope st_divisor_of_all) := ⟨rfl, rfl, rfl, by decide +kernel, rfl, by decide +kernel, by decide +kernel⟩
def b_divisor_of_all : dS := sSeq (sAsg (dC k_ZERO) (gN 1)) (sSeq (sForI (iQ (dVar 0)) (gN 2) (sAsg (dCall 2 sm_divisor_of_two (aCons (dVar 1) (aCons (dVar 2) (aNil)))) (gN 1))) (sRet (dVar 1)))
def sm_divisor_of_all : Sem := semOf ["numbers", "found", "number"] b_divisor_of_all
theorem e_divisor_of_all (a0 : SV) (T : Tk) (k : KD) : sm_divisor_of_all [a0] T k = b_divisor_of_all { nx := fun _ T => k .non T, rt := k, bk := fun _ _ => False, ct := fun _ _ => False } [some a0, none, none] T := rfl
abbrev st_divided : Stmt := topS 36
theorem sc_divided : FnScope ["number", "other", "product", "below"] ["number", "other"] (defScope st_divided) := ⟨rfl, rfl, rfl, by decide +kernel, rfl, by decide +kernel, by decide +kernel⟩
def b_divided : dS := sSeq (sPar 2 3 (aCons (dCall 2 sm_times (aCons (dVar 0) (aCons (dCall 1 sm_turned_over (aCons (dVar 1) (aNil))) (aNil)))) (aCons (dCall 1 sm_square_size (aCons (dVar 1) (aNil))) (aNil)))) (sSeq (sIf (dOr (dTst (dOp (oF fNe) (dOp (oF fMod) (dOp (oF fIx) (dVar 2) (dC (.int 0))) (dVar 3)) (dC (.int 0)))) (dTst (dOp (oF fNe) (dOp (oF fMod) (dOp (oF fIx) (dVar 2) (dC (.int 1))) (dVar 3)) (dC (.int 0))))) (sRet (dC .non)) ((fun k ρ T => k.nx ρ T))) (sRet (dTup (aCons (dOp (oF fDiv) (dOp (oF fIx) (dVar 2) (dC (.int 0))) (dVar 3)) (aCons (dOp (oF fDiv) (dOp (oF fIx) (dVar 2) (dC (.int 1))) (dVar 3)) (aNil))))))
def sm_divided : Sem := semOf ["number", "other", "product", "below"] b_divided
theorem e_divided (a0 a1 : SV) (T : Tk) (k : KD) : sm_divided [a0, a1] T k = b_divided { nx := fun _ T => k .non T, rt := k, bk := fun _ _ => False, ct := fun _ _ => False } [some a0, some a1, none, none] T := rfl
abbrev st_is_place : Stmt := topS 39
theorem sc_is_place : FnScope ["value"] ["value"] (defScope st_is_place) := ⟨rfl, rfl, rfl, by decide +kernel, rfl, by decide +kernel, by decide +kernel⟩
def b_is_place : dS := sRet (dAndV (dCall 2 sm_are_wholes (aCons (dVar 0) (aCons (dC (.int 3)) (aNil)))) (dOrV (dOp (oF fEq) (dVar 0) (dC k_FAR)) (dAndV (dOp (oF fGt) (dOp (oF fIx) (dVar 0) (dC (.int 2))) (dC (.int 0))) (dCall 1 sm_is_lowest (aCons (dVar 0) (aNil))))))
def sm_is_place : Sem := semOf ["value"] b_is_place
theorem e_is_place (a0 : SV) (T : Tk) (k : KD) : sm_is_place [a0] T k = b_is_place { nx := fun _ T => k .non T, rt := k, bk := fun _ _ => False, ct := fun _ _ => False } [some a0] T := rfl
abbrev st_check_place : Stmt := topS 40
theorem sc_check_place : FnScope ["value"] ["value"] (defScope st_check_place) := ⟨rfl, rfl, rfl, by decide +kernel, rfl, by decide +kernel, by decide +kernel⟩
def b_check_place (r : RX) : dS := sIf (dNot (dTst (dCall 1 sm_is_place (aCons (dVar 0) (aNil))))) (sRaise1 "InvalidPlace" "given" (dVar 0) r) ((fun k ρ T => k.nx ρ T))
def se_check_place : SemX := semX ["value"] b_check_place
theorem ex_check_place (r : RK) (a0 : SV) (T : Tk) (k : KD) : se_check_place r [a0] T k = b_check_place (fun e _ T => r e T) { nx := fun _ T => k .non T, rt := k, bk := fun _ _ => False, ct := fun _ _ => False } [some a0] T := rfl
abbrev st_quotient_place : Stmt := topS 41
theorem sc_quotient_place : FnScope ["number", "other", "product"] ["number", "other"] (defScope st_quotient_place) := ⟨rfl, rfl, rfl, by decide +kernel, rfl, by decide +kernel, by decide +kernel⟩
def b_quotient_place : dS := sSeq (sIf (dTst (dOp (oF fEq) (dVar 1) (dC k_ZERO))) (sRet (dC k_FAR)) ((fun k ρ T => k.nx ρ T))) (sSeq (sAsg (dCall 2 sm_times (aCons (dVar 0) (aCons (dCall 1 sm_turned_over (aCons (dVar 1) (aNil))) (aNil)))) (gN 2)) (sRet (dCall 1 sm_lowest (aCons (dTup (aCons (dOp (oF fIx) (dVar 2) (dC (.int 0))) (aCons (dOp (oF fIx) (dVar 2) (dC (.int 1))) (aCons (dCall 1 sm_square_size (aCons (dVar 1) (aNil))) (aNil))))) (aNil)))))
def sm_quotient_place : Sem := semOf ["number", "other", "product"] b_quotient_place
theorem e_quotient_place (a0 a1 : SV) (T : Tk) (k : KD) : sm_quotient_place [a0, a1] T k = b_quotient_place { nx := fun _ T => k .non T, rt := k, bk := fun _ _ => False, ct := fun _ _ => False } [some a0, some a1, none] T := rfl
abbrev st_bend : Stmt := topS 43
theorem sc_bend : FnScope ["row"] ["row"] (defScope st_bend) := ⟨rfl, rfl, rfl, by decide +kernel, rfl, by decide +kernel, by decide +kernel⟩
def b_bend : dS := sRet (dOp (oF fSub) (dOp (oF fAdd) (dOp (oF fMul) (dOp (oF fIx) (dVar 0) (dC (.int 1))) (dOp (oF fIx) (dVar 0) (dC (.int 1)))) (dOp (oF fMul) (dOp (oF fIx) (dVar 0) (dC (.int 2))) (dOp (oF fIx) (dVar 0) (dC (.int 2))))) (dOp (oF fMul) (dOp (oF fMul) (dC (.int 4)) (dOp (oF fIx) (dVar 0) (dC (.int 0)))) (dOp (oF fIx) (dVar 0) (dC (.int 3)))))
def sm_bend : Sem := semOf ["row"] b_bend
theorem e_bend (a0 : SV) (T : Tk) (k : KD) : sm_bend [a0] T k = b_bend { nx := fun _ T => k .non T, rt := k, bk := fun _ _ => False, ct := fun _ _ => False } [some a0] T := rfl
abbrev st_is_row : Stmt := topS 44
theorem sc_is_row : FnScope ["value"] ["value"] (defScope st_is_row) := ⟨rfl, rfl, rfl, by decide +kernel, rfl, by decide +kernel, by decide +kernel⟩
def b_is_row : dS := sRet (dAndV (dCall 2 sm_are_wholes (aCons (dVar 0) (aCons (dC (.int 4)) (aNil)))) (dAndV (dCall 1 sm_is_lowest (aCons (dVar 0) (aNil))) (dOp (oF fGt) (dCall 1 sm_bend (aCons (dVar 0) (aNil))) (dC (.int 0)))))
def sm_is_row : Sem := semOf ["value"] b_is_row
theorem e_is_row (a0 : SV) (T : Tk) (k : KD) : sm_is_row [a0] T k = b_is_row { nx := fun _ T => k .non T, rt := k, bk := fun _ _ => False, ct := fun _ _ => False } [some a0] T := rfl
abbrev st_is_round : Stmt := topS 45
theorem sc_is_round : FnScope ["value"] ["value"] (defScope st_is_round) := ⟨rfl, rfl, rfl, by decide +kernel, rfl, by decide +kernel, by decide +kernel⟩
def b_is_round : dS := sRet (dAndV (dCall 1 sm_is_row (aCons (dVar 0) (aNil))) (dCall 1 sm_is_led_up (aCons (dVar 0) (aNil))))
def sm_is_round : Sem := semOf ["value"] b_is_round
theorem e_is_round (a0 : SV) (T : Tk) (k : KD) : sm_is_round [a0] T k = b_is_round { nx := fun _ T => k .non T, rt := k, bk := fun _ _ => False, ct := fun _ _ => False } [some a0] T := rfl
abbrev st_check_round : Stmt := topS 46
theorem sc_check_round : FnScope ["value"] ["value"] (defScope st_check_round) := ⟨rfl, rfl, rfl, by decide +kernel, rfl, by decide +kernel, by decide +kernel⟩
def b_check_round (r : RX) : dS := sIf (dNot (dTst (dCall 1 sm_is_round (aCons (dVar 0) (aNil))))) (sRaise1 "InvalidRound" "given" (dVar 0) r) ((fun k ρ T => k.nx ρ T))
def se_check_round : SemX := semX ["value"] b_check_round
theorem ex_check_round (r : RK) (a0 : SV) (T : Tk) (k : KD) : se_check_round r [a0] T k = b_check_round (fun e _ T => r e T) { nx := fun _ T => k .non T, rt := k, bk := fun _ _ => False, ct := fun _ _ => False } [some a0] T := rfl
abbrev st_check_apart : Stmt := topS 47
theorem sc_check_apart : FnScope ["places", "place", "index"] ["places"] (defScope st_check_apart) := ⟨rfl, rfl, rfl, by decide +kernel, rfl, by decide +kernel, by decide +kernel⟩
def b_check_apart (r : RX) : dS := sSeq (sForI (iQ (dVar 0)) (gN 1) (sExpr (dCallX 1 se_check_place r (aCons (dVar 1) (aNil))))) (sForI (iEn (dVar 0)) (gTL 2 (gsCons (gN 2) (gsCons (gN 1) (gsNil)))) (sIf (dTst (dOp (oF fInS) (dVar 1) (dSlQ (dVar 0) (fun _ T k => k none T) (pSome (dVar 2))))) (sRaise1 "Same" "given" (dVar 1) r) ((fun k ρ T => k.nx ρ T))))
def se_check_apart : SemX := semX ["places", "place", "index"] b_check_apart
theorem ex_check_apart (r : RK) (a0 : SV) (T : Tk) (k : KD) : se_check_apart r [a0] T k = b_check_apart (fun e _ T => r e T) { nx := fun _ T => k .non T, rt := k, bk := fun _ _ => False, ct := fun _ _ => False } [some a0, none, none] T := rfl
abbrev st_determinant : Stmt := topS 49
theorem sc_determinant : FnScope ["chart"] ["chart"] (defScope st_determinant) := ⟨rfl, rfl, rfl, by decide +kernel, rfl, by decide +kernel, by decide +kernel⟩
def b_determinant : dS := sRet (dCall 2 sm_minus (aCons (dCall 2 sm_times (aCons (dOp (oF fIx) (dVar 0) (dC (.int 1))) (aCons (dOp (oF fIx) (dVar 0) (dC (.int 4))) (aNil)))) (aCons (dCall 2 sm_times (aCons (dOp (oF fIx) (dVar 0) (dC (.int 2))) (aCons (dOp (oF fIx) (dVar 0) (dC (.int 3))) (aNil)))) (aNil))))
def sm_determinant : Sem := semOf ["chart"] b_determinant
theorem e_determinant (a0 : SV) (T : Tk) (k : KD) : sm_determinant [a0] T k = b_determinant { nx := fun _ T => k .non T, rt := k, bk := fun _ _ => False, ct := fun _ _ => False } [some a0] T := rfl
abbrev st_form_of : Stmt := topS 50
theorem sc_form_of : FnScope ["is_mirrored", "numbers", "common", "found", "number", "unit"] ["is_mirrored", "numbers"] (defScope st_form_of) := ⟨rfl, rfl, rfl, by decide +kernel, rfl, by decide +kernel, by decide +kernel⟩
def b_form_of : dS := sSeq (sAsg (dCall 1 sm_divisor_of_all (aCons (dVar 1) (aNil))) (gN 2)) (sSeq (sAsg (dLc [4] (iQ (dVar 1)) (cN 4) dYes (dCall 2 sm_divided (aCons (dVar 4) (aCons (dVar 2) (aNil))))) (gN 3)) (sSeq (sAsg (dCall 1 sm_unit_for (aCons (dOp (oF fIx) (dLc [4] (iQ (dVar 3)) (cN 4) (dTst (dOp (oF fNe) (dVar 4) (dC k_ZERO))) (dVar 4)) (dC (.int 0))) (aNil))) (gN 5)) (sRet (dTup (aCons (dVar 0) (aStar (dLc [4] (iQ (dVar 3)) (cN 4) dYes (dCall 2 sm_times (aCons (dVar 4) (aCons (dVar 5) (aNil))))) (aNil)))))))
def sm_form_of : Sem := semOf ["is_mirrored", "numbers", "common", "found", "number", "unit"] b_form_of
theorem e_form_of (a0 a1 : SV) (T : Tk) (k : KD) : sm_form_of [a0, a1] T k = b_form_of { nx := fun _ T => k .non T, rt := k, bk := fun _ _ => False, ct := fun _ _ => False } [some a0, some a1, none, none, none, none] T := rfl
abbrev st_is_flag : Stmt := topS 51
theorem sc_is_flag : FnScope ["value"] ["value"] (defScope st_is_flag) := ⟨rfl, rfl, rfl, by decide +kernel, rfl, by decide +kernel, by decide +kernel⟩
def b_is_flag : dS := sRet (dAndV (dCall 1 sm_is_whole (aCons (dVar 0) (aNil))) (dOp (oF fInS) (dVar 0) (dTup (aCons (dC (.int 0)) (aCons (dC (.int 1)) (aNil))))))
def sm_is_flag : Sem := semOf ["value"] b_is_flag
theorem e_is_flag (a0 : SV) (T : Tk) (k : KD) : sm_is_flag [a0] T k = b_is_flag { nx := fun _ T => k .non T, rt := k, bk := fun _ _ => False, ct := fun _ _ => False } [some a0] T := rfl
abbrev st_is_map : Stmt := topS 52
theorem sc_is_map : FnScope ["value", "number"] ["value"] (defScope st_is_map) := ⟨rfl, rfl, rfl, by decide +kernel, rfl, by decide +kernel, by decide +kernel⟩
def b_is_map : dS := sSeq (sIf (dOr (dNot (dTst (dIsi .tuple (dVar 0)))) (dOr (dTst (dOp (oF fNe) (dBlt (oG fLen) (aCons (dVar 0) (aNil))) (dC (.int 5)))) (dNot (dTst (dCall 1 sm_is_flag (aCons (dOp (oF fIx) (dVar 0) (dC (.int 0))) (aNil))))))) (sRet (dC (.bl false))) ((fun k ρ T => k.nx ρ T))) (sSeq (sIf (dOr (dTst (dOp (oF fNe) (dLc [1] (iQ (dSlQ (dVar 0) (pSome (dC (.int 1))) (fun _ T k => k none T))) (cN 1) (dNot (dTst (dCall 1 sm_is_complex (aCons (dVar 1) (aNil))))) (dVar 1)) (dLst (aNil)))) (dTst (dOp (oF fEq) (dCall 1 sm_determinant (aCons (dVar 0) (aNil))) (dC k_ZERO)))) (sRet (dC (.bl false))) ((fun k ρ T => k.nx ρ T))) (sRet (dOp (oF fEq) (dCall 2 sm_form_of (aCons (dOp (oF fIx) (dVar 0) (dC (.int 0))) (aCons (dSlQ (dVar 0) (pSome (dC (.int 1))) (fun _ T k => k none T)) (aNil)))) (dVar 0))))
def sm_is_map : Sem := semOf ["value", "number"] b_is_map
theorem e_is_map (a0 : SV) (T : Tk) (k : KD) : sm_is_map [a0] T k = b_is_map { nx := fun _ T => k .non T, rt := k, bk := fun _ _ => False, ct := fun _ _ => False } [some a0, none] T := rfl
abbrev st_check_map : Stmt := topS 53
theorem sc_check_map : FnScope ["value"] ["value"] (defScope st_check_map) := ⟨rfl, rfl, rfl, by decide +kernel, rfl, by decide +kernel, by decide +kernel⟩
def b_check_map (r : RX) : dS := sIf (dNot (dTst (dCall 1 sm_is_map (aCons (dVar 0) (aNil))))) (sRaise1 "InvalidMap" "given" (dVar 0) r) ((fun k ρ T => k.nx ρ T))
def se_check_map : SemX := semX ["value"] b_check_map
theorem ex_check_map (r : RK) (a0 : SV) (T : Tk) (k : KD) : se_check_map r [a0] T k = b_check_map (fun e _ T => r e T) { nx := fun _ T => k .non T, rt := k, bk := fun _ _ => False, ct := fun _ _ => False } [some a0] T := rfl
abbrev st_map_of : Stmt := topS 54
theorem sc_map_of : FnScope ["is_mirrored", "first", "second", "third", "fourth", "numbers", "number"] ["is_mirrored", "first", "second", "third", "fourth"] (defScope st_map_of) := ⟨rfl, rfl, rfl, by decide +kernel, rfl, by decide +kernel, by decide +kernel⟩
def b_map_of (r : RX) : dS := sSeq (sIf (dNot (dTst (dCall 1 sm_is_flag (aCons (dVar 0) (aNil))))) (sRaise1 "InvalidFlag" "given" (dVar 0) r) ((fun k ρ T => k.nx ρ T))) (sSeq (sAsg (dTup (aCons (dVar 1) (aCons (dVar 2) (aCons (dVar 3) (aCons (dVar 4) (aNil)))))) (gN 5)) (sSeq (sForI (iQ (dVar 5)) (gN 6) (sExpr (dCallX 1 se_check_complex r (aCons (dVar 6) (aNil))))) (sSeq (sIf (dTst (dOp (oF fEq) (dCall 1 sm_determinant (aCons (dTup (aCons (dVar 0) (aStar (dVar 5) (aNil)))) (aNil))) (dC k_ZERO))) (sRaise0 "NoMap" r) ((fun k ρ T => k.nx ρ T))) (sRet (dCall 2 sm_form_of (aCons (dVar 0) (aCons (dVar 5) (aNil))))))))
def se_map_of : SemX := semX ["is_mirrored", "first", "second", "third", "fourth", "numbers", "number"] b_map_of
theorem ex_map_of (r : RK) (a0 a1 a2 a3 a4 : SV) (T : Tk) (k : KD) : se_map_of r [a0, a1, a2, a3, a4] T k = b_map_of (fun e _ T => r e T) { nx := fun _ T => k .non T, rt := k, bk := fun _ _ => False, ct := fun _ _ => False } [some a0, some a1, some a2, some a3, some a4, none, none] T := rfl
abbrev st_led_by : Stmt := topS 55
theorem sc_led_by : FnScope ["chart", "place", "is_mirrored", "a", "b", "c", "d", "p", "s", "r", "number"] ["chart", "place"] (defScope st_led_by) := ⟨rfl, rfl, rfl, by decide +kernel, rfl, by decide +kernel, by decide +kernel⟩
def b_led_by : dS := sSeq (sAsg (dVar 0) (gTL 5 (gsCons (gN 2) (gsCons (gN 3) (gsCons (gN 4) (gsCons (gN 5) (gsCons (gN 6) (gsNil)))))))) (sSeq (sAsg (dVar 1) (gTL 3 (gsCons (gN 7) (gsCons (gN 8) (gsCons (gN 9) (gsNil)))))) (sSeq (sAsg (dIf (dTst (dOp (oF fEq) (dVar 2) (dC (.int 1)))) (dTup (aCons (dVar 7) (aCons (dNeg (dVar 8)) (aNil)))) (dTup (aCons (dVar 7) (aCons (dVar 8) (aNil))))) (gN 10)) (sRet (dCall 2 sm_quotient_place (aCons (dCall 2 sm_plus (aCons (dCall 2 sm_times (aCons (dVar 3) (aCons (dVar 10) (aNil)))) (aCons (dCall 2 sm_scaled (aCons (dVar 4) (aCons (dVar 9) (aNil)))) (aNil)))) (aCons (dCall 2 sm_plus (aCons (dCall 2 sm_times (aCons (dVar 5) (aCons (dVar 10) (aNil)))) (aCons (dCall 2 sm_scaled (aCons (dVar 6) (aCons (dVar 9) (aNil)))) (aNil)))) (aNil)))))))
def sm_led_by : Sem := semOf ["chart", "place", "is_mirrored", "a", "b", "c", "d", "p", "s", "r", "number"] b_led_by
theorem e_led_by (a0 a1 : SV) (T : Tk) (k : KD) : sm_led_by [a0, a1] T k = b_led_by { nx := fun _ T => k .non T, rt := k, bk := fun _ _ => False, ct := fun _ _ => False } [some a0, some a1, none, none, none, none, none, none, none, none, none] T := rfl
abbrev st_inner : Stmt := topS 57
theorem sc_inner : FnScope ["number", "other"] ["number", "other"] (defScope st_inner) := ⟨rfl, rfl, rfl, by decide +kernel, rfl, by decide +kernel, by decide +kernel⟩
def b_inner : dS := sRet (dOp (oF fAdd) (dOp (oF fMul) (dOp (oF fIx) (dVar 0) (dC (.int 0))) (dOp (oF fIx) (dVar 1) (dC (.int 0)))) (dOp (oF fMul) (dOp (oF fIx) (dVar 0) (dC (.int 1))) (dOp (oF fIx) (dVar 1) (dC (.int 1)))))
def sm_inner : Sem := semOf ["number", "other"] b_inner
theorem e_inner (a0 a1 : SV) (T : Tk) (k : KD) : sm_inner [a0, a1] T k = b_inner { nx := fun _ T => k .non T, rt := k, bk := fun _ _ => False, ct := fun _ _ => False } [some a0, some a1] T := rfl
abbrev st_led_row : Stmt := topS 56
theorem sc_led_row : FnScope ["chart", "row", "is_mirrored", "a", "b", "c", "d", "q", "l", "m", "k", "number", "first", "last", "cross"] ["chart", "row"] (defScope st_led_row) := ⟨rfl, rfl, rfl, by decide +kernel, rfl, by decide +kernel, by decide +kernel⟩
def b_led_row : dS := sSeq (sAsg (dVar 0) (gTL 5 (gsCons (gN 2) (gsCons (gN 3) (gsCons (gN 4) (gsCons (gN 5) (gsCons (gN 6) (gsNil)))))))) (sSeq (sAsg (dVar 1) (gTL 4 (gsCons (gN 7) (gsCons (gN 8) (gsCons (gN 9) (gsCons (gN 10) (gsNil))))))) (sSeq (sAsg (dIf (dTst (dOp (oF fEq) (dVar 2) (dC (.int 1)))) (dTup (aCons (dVar 8) (aCons (dNeg (dVar 9)) (aNil)))) (dTup (aCons (dVar 8) (aCons (dVar 9) (aNil))))) (gN 11)) (sSeq (sAsg (dOp (oF fSub) (dOp (oF fAdd) (dOp (oF fMul) (dOp (oF fMul) (dC (.int 2)) (dVar 7)) (dCall 2 sm_inner (aCons (dVar 6) (aCons (dVar 6) (aNil))))) (dOp (oF fMul) (dOp (oF fMul) (dC (.int 2)) (dVar 10)) (dCall 2 sm_inner (aCons (dVar 5) (aCons (dVar 5) (aNil)))))) (dOp (oF fMul) (dC (.int 2)) (dOp (oF fIx) (dCall 2 sm_times (aCons (dCall 2 sm_times (aCons (dCall 1 sm_turned_over (aCons (dVar 6) (aNil))) (aCons (dVar 11) (aNil)))) (aCons (dVar 5) (aNil)))) (dC (.int 0))))) (gN 12)) (sSeq (sAsg (dOp (oF fSub) (dOp (oF fAdd) (dOp (oF fMul) (dOp (oF fMul) (dC (.int 2)) (dVar 7)) (dCall 2 sm_inner (aCons (dVar 4) (aCons (dVar 4) (aNil))))) (dOp (oF fMul) (dOp (oF fMul) (dC (.int 2)) (dVar 10)) (dCall 2 sm_inner (aCons (dVar 3) (aCons (dVar 3) (aNil)))))) (dOp (oF fMul) (dC (.int 2)) (dOp (oF fIx) (dCall 2 sm_times (aCons (dCall 2 sm_times (aCons (dCall 1 sm_turned_over (aCons (dVar 4) (aNil))) (aCons (dVar 11) (aNil)))) (aCons (dVar 3) (aNil)))) (dC (.int 0))))) (gN 13)) (sSeq (sAsg (dCall 2 sm_plus (aCons (dCall 2 sm_scaled (aCons (dCall 2 sm_times (aCons (dCall 1 sm_turned_over (aCons (dVar 6) (aNil))) (aCons (dVar 4) (aNil)))) (aCons (dOp (oF fMul) (dNeg (dC (.int 2))) (dVar 7)) (aNil)))) (aCons (dCall 2 sm_scaled (aCons (dCall 2 sm_times (aCons (dCall 1 sm_turned_over (aCons (dVar 5) (aNil))) (aCons (dVar 3) (aNil)))) (aCons (dOp (oF fMul) (dNeg (dC (.int 2))) (dVar 10)) (aNil)))) (aNil)))) (gN 14)) (sSeq (sAsg (dCall 2 sm_plus (aCons (dVar 14) (aCons (dCall 2 sm_times (aCons (dCall 2 sm_times (aCons (dCall 1 sm_turned_over (aCons (dVar 6) (aNil))) (aCons (dVar 11) (aNil)))) (aCons (dVar 3) (aNil)))) (aNil)))) (gN 14)) (sSeq (sAsg (dCall 2 sm_plus (aCons (dVar 14) (aCons (dCall 2 sm_times (aCons (dCall 2 sm_times (aCons (dCall 1 sm_turned_over (aCons (dVar 5) (aNil))) (aCons (dCall 1 sm_turned_over (aCons (dVar 11) (aNil))) (aNil)))) (aCons (dVar 4) (aNil)))) (aNil)))) (gN 14)) (sRet (dTup (aCons (dVar 12) (aCons (dOp (oF fMul) (dC (.int 2)) (dOp (oF fIx) (dVar 14) (dC (.int 0)))) (aCons (dOp (oF fMul) (dC (.int 2)) (dOp (oF fIx) (dVar 14) (dC (.int 1)))) (aCons (dVar 13) (aNil))))))))))))))
def sm_led_row : Sem := semOf ["chart", "row", "is_mirrored", "a", "b", "c", "d", "q", "l", "m", "k", "number", "first", "last", "cross"] b_led_row
theorem e_led_row (a0 a1 : SV) (T : Tk) (k : KD) : sm_led_row [a0, a1] T k = b_led_row { nx := fun _ T => k .non T, rt := k, bk := fun _ _ => False, ct := fun _ _ => False } [some a0, some a1, none, none, none, none, none, none, none, none, none, none, none, none, none] T := rfl
abbrev st_joined : Stmt := topS 58
theorem sc_joined : FnScope ["chart", "other", "numbers", "number", "a", "b", "c", "d", "found"] ["chart", "other"] (defScope st_joined) := ⟨rfl, rfl, rfl, by decide +kernel, rfl, by decide +kernel, by decide +kernel⟩
def b_joined : dS := sSeq (sAsg (dIf (dTst (dOp (oF fEq) (dOp (oF fIx) (dVar 0) (dC (.int 0))) (dC (.int 0)))) (dBlt (oG fList) (aCons (dSlQ (dVar 1) (pSome (dC (.int 1))) (fun _ T k => k none T)) (aNil))) (dLc [3] (iQ (dSlQ (dVar 1) (pSome (dC (.int 1))) (fun _ T k => k none T))) (cN 3) dYes (dCall 1 sm_turned_over (aCons (dVar 3) (aNil))))) (gN 2)) (sSeq (sAsg (dSlQ (dVar 0) (pSome (dC (.int 1))) (fun _ T k => k none T)) (gTL 4 (gsCons (gN 4) (gsCons (gN 5) (gsCons (gN 6) (gsCons (gN 7) (gsNil))))))) (sSeq (sAsg (dTup (aCons (dCall 2 sm_plus (aCons (dCall 2 sm_times (aCons (dVar 4) (aCons (dOp (oF fIx) (dVar 2) (dC (.int 0))) (aNil)))) (aCons (dCall 2 sm_times (aCons (dVar 5) (aCons (dOp (oF fIx) (dVar 2) (dC (.int 2))) (aNil)))) (aNil)))) (aCons (dCall 2 sm_plus (aCons (dCall 2 sm_times (aCons (dVar 4) (aCons (dOp (oF fIx) (dVar 2) (dC (.int 1))) (aNil)))) (aCons (dCall 2 sm_times (aCons (dVar 5) (aCons (dOp (oF fIx) (dVar 2) (dC (.int 3))) (aNil)))) (aNil)))) (aCons (dCall 2 sm_plus (aCons (dCall 2 sm_times (aCons (dVar 6) (aCons (dOp (oF fIx) (dVar 2) (dC (.int 0))) (aNil)))) (aCons (dCall 2 sm_times (aCons (dVar 7) (aCons (dOp (oF fIx) (dVar 2) (dC (.int 2))) (aNil)))) (aNil)))) (aCons (dCall 2 sm_plus (aCons (dCall 2 sm_times (aCons (dVar 6) (aCons (dOp (oF fIx) (dVar 2) (dC (.int 1))) (aNil)))) (aCons (dCall 2 sm_times (aCons (dVar 7) (aCons (dOp (oF fIx) (dVar 2) (dC (.int 3))) (aNil)))) (aNil)))) (aNil)))))) (gN 8)) (sRet (dCall 2 sm_form_of (aCons (dOp (oF fMod) (dOp (oF fAdd) (dOp (oF fIx) (dVar 0) (dC (.int 0))) (dOp (oF fIx) (dVar 1) (dC (.int 0)))) (dC (.int 2))) (aCons (dVar 8) (aNil)))))))
def sm_joined : Sem := semOf ["chart", "other", "numbers", "number", "a", "b", "c", "d", "found"] b_joined
theorem e_joined (a0 a1 : SV) (T : Tk) (k : KD) : sm_joined [a0, a1] T k = b_joined { nx := fun _ T => k .non T, rt := k, bk := fun _ _ => False, ct := fun _ _ => False } [some a0, some a1, none, none, none, none, none, none, none] T := rfl
abbrev st_way_back : Stmt := topS 59
theorem sc_way_back : FnScope ["chart", "is_mirrored", "a", "b", "c", "d", "numbers", "number"] ["chart"] (defScope st_way_back) := ⟨rfl, rfl, rfl, by decide +kernel, rfl, by decide +kernel, by decide +kernel⟩
def b_way_back : dS := sSeq (sAsg (dVar 0) (gTL 5 (gsCons (gN 1) (gsCons (gN 2) (gsCons (gN 3) (gsCons (gN 4) (gsCons (gN 5) (gsNil)))))))) (sSeq (sAsg (dLst (aCons (dVar 5) (aCons (dCall 2 sm_scaled (aCons (dVar 3) (aCons (dNeg (dC (.int 1))) (aNil)))) (aCons (dCall 2 sm_scaled (aCons (dVar 4) (aCons (dNeg (dC (.int 1))) (aNil)))) (aCons (dVar 2) (aNil)))))) (gN 6)) (sSeq (sIf (dTst (dOp (oF fEq) (dVar 1) (dC (.int 1)))) (sAsg (dLc [7] (iQ (dVar 6)) (cN 7) dYes (dCall 1 sm_turned_over (aCons (dVar 7) (aNil)))) (gN 6)) ((fun k ρ T => k.nx ρ T))) (sRet (dCall 2 sm_form_of (aCons (dVar 1) (aCons (dVar 6) (aNil)))))))
def sm_way_back : Sem := semOf ["chart", "is_mirrored", "a", "b", "c", "d", "numbers", "number"] b_way_back
theorem e_way_back (a0 : SV) (T : Tk) (k : KD) : sm_way_back [a0] T k = b_way_back { nx := fun _ T => k .non T, rt := k, bk := fun _ _ => False, ct := fun _ _ => False } [some a0, none, none, none, none, none, none, none] T := rfl
abbrev st_mirror_of : Stmt := topS 60
theorem sc_mirror_of : FnScope ["row", "q", "l", "m", "k"] ["row"] (defScope st_mirror_of) := ⟨rfl, rfl, rfl, by decide +kernel, rfl, by decide +kernel, by decide +kernel⟩
def b_mirror_of : dS := sSeq (sAsg (dVar 0) (gTL 4 (gsCons (gN 1) (gsCons (gN 2) (gsCons (gN 3) (gsCons (gN 4) (gsNil))))))) (sRet (dCall 2 sm_form_of (aCons (dC (.int 1)) (aCons (dLst (aCons (dTup (aCons (dNeg (dVar 2)) (aCons (dNeg (dVar 3)) (aNil)))) (aCons (dTup (aCons (dOp (oF fMul) (dNeg (dC (.int 2))) (dVar 4)) (aCons (dC (.int 0)) (aNil)))) (aCons (dTup (aCons (dOp (oF fMul) (dC (.int 2)) (dVar 1)) (aCons (dC (.int 0)) (aNil)))) (aCons (dTup (aCons (dVar 2) (aCons (dNeg (dVar 3)) (aNil)))) (aNil)))))) (aNil)))))
def sm_mirror_of : Sem := semOf ["row", "q", "l", "m", "k"] b_mirror_of
theorem e_mirror_of (a0 : SV) (T : Tk) (k : KD) : sm_mirror_of [a0] T k = b_mirror_of { nx := fun _ T => k .non T, rt := k, bk := fun _ _ => False, ct := fun _ _ => False } [some a0, none, none, none, none] T := rfl
abbrev st_led_place : Stmt := topS 61
theorem sc_led_place : FnScope ["chart", "place"] ["chart", "place"] (defScope st_led_place) := ⟨rfl, rfl, rfl, by decide +kernel, rfl, by decide +kernel, by decide +kernel⟩
def b_led_place (r : RX) : dS := sSeq (sExpr (dCallX 1 se_check_map r (aCons (dVar 0) (aNil)))) (sSeq (sExpr (dCallX 1 se_check_place r (aCons (dVar 1) (aNil)))) (sRet (dCall 2 sm_led_by (aCons (dVar 0) (aCons (dVar 1) (aNil))))))
def se_led_place : SemX := semX ["chart", "place"] b_led_place
theorem ex_led_place (r : RK) (a0 a1 : SV) (T : Tk) (k : KD) : se_led_place r [a0, a1] T k = b_led_place (fun e _ T => r e T) { nx := fun _ T => k .non T, rt := k, bk := fun _ _ => False, ct := fun _ _ => False } [some a0, some a1] T := rfl
abbrev st_led_round : Stmt := topS 62
theorem sc_led_round : FnScope ["chart", "circle"] ["chart", "circle"] (defScope st_led_round) := ⟨rfl, rfl, rfl, by decide +kernel, rfl, by decide +kernel, by decide +kernel⟩
def b_led_round (r : RX) : dS := sSeq (sExpr (dCallX 1 se_check_map r (aCons (dVar 0) (aNil)))) (sSeq (sExpr (dCallX 1 se_check_round r (aCons (dVar 1) (aNil)))) (sRet (dCall 1 sm_first_above (aCons (dCall 2 sm_led_row (aCons (dVar 0) (aCons (dVar 1) (aNil)))) (aNil)))))
def se_led_round : SemX := semX ["chart", "circle"] b_led_round
theorem ex_led_round (r : RK) (a0 a1 : SV) (T : Tk) (k : KD) : se_led_round r [a0, a1] T k = b_led_round (fun e _ T => r e T) { nx := fun _ T => k .non T, rt := k, bk := fun _ _ => False, ct := fun _ _ => False } [some a0, some a1] T := rfl
abbrev st_after : Stmt := topS 63
theorem sc_after : FnScope ["chart", "other"] ["chart", "other"] (defScope st_after) := ⟨rfl, rfl, rfl, by decide +kernel, rfl, by decide +kernel, by decide +kernel⟩
def b_after (r : RX) : dS := sSeq (sExpr (dCallX 1 se_check_map r (aCons (dVar 0) (aNil)))) (sSeq (sExpr (dCallX 1 se_check_map r (aCons (dVar 1) (aNil)))) (sRet (dCall 2 sm_joined (aCons (dVar 0) (aCons (dVar 1) (aNil))))))
def se_after : SemX := semX ["chart", "other"] b_after
theorem ex_after (r : RK) (a0 a1 : SV) (T : Tk) (k : KD) : se_after r [a0, a1] T k = b_after (fun e _ T => r e T) { nx := fun _ T => k .non T, rt := k, bk := fun _ _ => False, ct := fun _ _ => False } [some a0, some a1] T := rfl
abbrev st_back : Stmt := topS 64
theorem sc_back : FnScope ["chart"] ["chart"] (defScope st_back) := ⟨rfl, rfl, rfl, by decide +kernel, rfl, by decide +kernel, by decide +kernel⟩
def b_back (r : RX) : dS := sSeq (sExpr (dCallX 1 se_check_map r (aCons (dVar 0) (aNil)))) (sRet (dCall 1 sm_way_back (aCons (dVar 0) (aNil))))
def se_back : SemX := semX ["chart"] b_back
theorem ex_back (r : RK) (a0 : SV) (T : Tk) (k : KD) : se_back r [a0] T k = b_back (fun e _ T => r e T) { nx := fun _ T => k .non T, rt := k, bk := fun _ _ => False, ct := fun _ _ => False } [some a0] T := rfl
abbrev st_mirror_in : Stmt := topS 65
theorem sc_mirror_in : FnScope ["circle"] ["circle"] (defScope st_mirror_in) := ⟨rfl, rfl, rfl, by decide +kernel, rfl, by decide +kernel, by decide +kernel⟩
def b_mirror_in (r : RX) : dS := sSeq (sExpr (dCallX 1 se_check_round r (aCons (dVar 0) (aNil)))) (sRet (dCall 1 sm_mirror_of (aCons (dVar 0) (aNil))))
def se_mirror_in : SemX := semX ["circle"] b_mirror_in
theorem ex_mirror_in (r : RK) (a0 : SV) (T : Tk) (k : KD) : se_mirror_in r [a0] T k = b_mirror_in (fun e _ T => r e T) { nx := fun _ T => k .non T, rt := k, bk := fun _ _ => False, ct := fun _ _ => False } [some a0] T := rfl
abbrev st_is_straight : Stmt := topS 66
theorem sc_is_straight : FnScope ["chart", "circle"] ["chart", "circle"] (defScope st_is_straight) := ⟨rfl, rfl, rfl, by decide +kernel, rfl, by decide +kernel, by decide +kernel⟩
def b_is_straight (r : RX) : dS := sRet (dOp (oF fEq) (dOp (oF fIx) (dCallX 2 se_led_round r (aCons (dVar 0) (aCons (dVar 1) (aNil)))) (dC (.int 0))) (dC (.int 0)))
def se_is_straight : SemX := semX ["chart", "circle"] b_is_straight
theorem ex_is_straight (r : RK) (a0 a1 : SV) (T : Tk) (k : KD) : se_is_straight r [a0, a1] T k = b_is_straight (fun e _ T => r e T) { nx := fun _ T => k .non T, rt := k, bk := fun _ _ => False, ct := fun _ _ => False } [some a0, some a1] T := rfl
abbrev st_check_triple : Stmt := topS 69
theorem sc_check_triple : FnScope ["value", "index", "place"] ["value"] (defScope st_check_triple) := ⟨rfl, rfl, rfl, by decide +kernel, rfl, by decide +kernel, by decide +kernel⟩
def b_check_triple (r : RX) : dS := sSeq (sIf (dNot (dTst (dIsi .tuple (dVar 0)))) (sRaise1 "InvalidTriple" "index" (dC .non) r) ((fun k ρ T => k.nx ρ T))) (sSeq (sForI (iEn (dVar 0)) (gTL 2 (gsCons (gN 1) (gsCons (gN 2) (gsNil)))) (sIf (dOr (dTst (dOp (oF fEq) (dVar 1) (dC k_MANY))) (dOr (dNot (dTst (dCall 1 sm_is_place (aCons (dVar 2) (aNil))))) (dTst (dOp (oF fInS) (dVar 2) (dSlQ (dVar 0) (fun _ T k => k none T) (pSome (dVar 1))))))) (sRaise1 "InvalidTriple" "index" (dVar 1) r) ((fun k ρ T => k.nx ρ T)))) (sIf (dTst (dOp (oF fLt) (dBlt (oG fLen) (aCons (dVar 0) (aNil))) (dC k_MANY))) (sRaise1 "InvalidTriple" "index" (dBlt (oG fLen) (aCons (dVar 0) (aNil))) r) ((fun k ρ T => k.nx ρ T))))
def se_check_triple : SemX := semX ["value", "index", "place"] b_check_triple
theorem ex_check_triple (r : RK) (a0 : SV) (T : Tk) (k : KD) : se_check_triple r [a0] T k = b_check_triple (fun e _ T => r e T) { nx := fun _ T => k .non T, rt := k, bk := fun _ _ => False, ct := fun _ _ => False } [some a0, none, none] T := rfl
abbrev st_apart : Stmt := topS 70
theorem sc_apart : FnScope ["place", "other"] ["place", "other"] (defScope st_apart) := ⟨rfl, rfl, rfl, by decide +kernel, rfl, by decide +kernel, by decide +kernel⟩
def b_apart : dS := sRet (dCall 2 sm_minus (aCons (dCall 2 sm_scaled (aCons (dSlQ (dVar 0) (fun _ T k => k none T) (pSome (dC (.int 2)))) (aCons (dOp (oF fIx) (dVar 1) (dC (.int 2))) (aNil)))) (aCons (dCall 2 sm_scaled (aCons (dSlQ (dVar 1) (fun _ T k => k none T) (pSome (dC (.int 2)))) (aCons (dOp (oF fIx) (dVar 0) (dC (.int 2))) (aNil)))) (aNil))))
def sm_apart : Sem := semOf ["place", "other"] b_apart
theorem e_apart (a0 a1 : SV) (T : Tk) (k : KD) : sm_apart [a0, a1] T k = b_apart { nx := fun _ T => k .non T, rt := k, bk := fun _ _ => False, ct := fun _ _ => False } [some a0, some a1] T := rfl
abbrev st_chart_to_three : Stmt := topS 71
theorem sc_chart_to_three : FnScope ["places", "first", "second", "third", "one", "two", "numbers"] ["places"] (defScope st_chart_to_three) := ⟨rfl, rfl, rfl, by decide +kernel, rfl, by decide +kernel, by decide +kernel⟩
def b_chart_to_three : dS := sSeq (sAsg (dVar 0) (gTL 3 (gsCons (gN 1) (gsCons (gN 2) (gsCons (gN 3) (gsNil)))))) (sSeq (sPar 4 5 (aCons (dCall 2 sm_apart (aCons (dVar 3) (aCons (dVar 2) (aNil)))) (aCons (dCall 2 sm_apart (aCons (dVar 3) (aCons (dVar 1) (aNil)))) (aNil)))) (sSeq (sAsg (dLst (aCons (dCall 2 sm_scaled (aCons (dVar 4) (aCons (dOp (oF fIx) (dVar 1) (dC (.int 2))) (aNil)))) (aCons (dCall 2 sm_times (aCons (dVar 4) (aCons (dTup (aCons (dNeg (dOp (oF fIx) (dVar 1) (dC (.int 0)))) (aCons (dNeg (dOp (oF fIx) (dVar 1) (dC (.int 1)))) (aNil)))) (aNil)))) (aCons (dCall 2 sm_scaled (aCons (dVar 5) (aCons (dOp (oF fIx) (dVar 2) (dC (.int 2))) (aNil)))) (aCons (dCall 2 sm_times (aCons (dVar 5) (aCons (dTup (aCons (dNeg (dOp (oF fIx) (dVar 2) (dC (.int 0)))) (aCons (dNeg (dOp (oF fIx) (dVar 2) (dC (.int 1)))) (aNil)))) (aNil)))) (aNil)))))) (gN 6)) (sRet (dCall 2 sm_form_of (aCons (dC (.int 0)) (aCons (dVar 6) (aNil)))))))
def sm_chart_to_three : Sem := semOf ["places", "first", "second", "third", "one", "two", "numbers"] b_chart_to_three
theorem e_chart_to_three (a0 : SV) (T : Tk) (k : KD) : sm_chart_to_three [a0] T k = b_chart_to_three { nx := fun _ T => k .non T, rt := k, bk := fun _ _ => False, ct := fun _ _ => False } [some a0, none, none, none, none, none, none] T := rfl
abbrev st_plain_through : Stmt := topS 72
theorem sc_plain_through : FnScope ["sources", "goals"] ["sources", "goals"] (defScope st_plain_through) := ⟨rfl, rfl, rfl, by decide +kernel, rfl, by decide +kernel, by decide +kernel⟩
def b_plain_through (r : RX) : dS := sSeq (sExpr (dCallX 1 se_check_triple r (aCons (dVar 0) (aNil)))) (sSeq (sExpr (dCallX 1 se_check_triple r (aCons (dVar 1) (aNil)))) (sRet (dCall 2 sm_joined (aCons (dCall 1 sm_way_back (aCons (dCall 1 sm_chart_to_three (aCons (dVar 1) (aNil))) (aNil))) (aCons (dCall 1 sm_chart_to_three (aCons (dVar 0) (aNil))) (aNil))))))
def se_plain_through : SemX := semX ["sources", "goals"] b_plain_through
theorem ex_plain_through (r : RK) (a0 a1 : SV) (T : Tk) (k : KD) : se_plain_through r [a0, a1] T k = b_plain_through (fun e _ T => r e T) { nx := fun _ T => k .non T, rt := k, bk := fun _ _ => False, ct := fun _ _ => False } [some a0, some a1] T := rfl
abbrev st_mirrored_through : Stmt := topS 73
theorem sc_mirrored_through : FnScope ["sources", "goals", "images", "place", "found"] ["sources", "goals"] (defScope st_mirrored_through) := ⟨rfl, rfl, rfl, by decide +kernel, rfl, by decide +kernel, by decide +kernel⟩
def b_mirrored_through (r : RX) : dS := sSeq (sExpr (dCallX 1 se_check_triple r (aCons (dVar 0) (aNil)))) (sSeq (sExpr (dCallX 1 se_check_triple r (aCons (dVar 1) (aNil)))) (sSeq (sAsg (dLc [3] (iQ (dVar 0)) (cN 3) dYes (dTup (aCons (dOp (oF fIx) (dVar 3) (dC (.int 0))) (aCons (dNeg (dOp (oF fIx) (dVar 3) (dC (.int 1)))) (aCons (dOp (oF fIx) (dVar 3) (dC (.int 2))) (aNil)))))) (gN 2)) (sSeq (sAsg (dCall 2 sm_joined (aCons (dCall 1 sm_way_back (aCons (dCall 1 sm_chart_to_three (aCons (dVar 1) (aNil))) (aNil))) (aCons (dCall 1 sm_chart_to_three (aCons (dVar 2) (aNil))) (aNil)))) (gN 4)) (sRet (dTup (aCons (dC (.int 1)) (aStar (dSlQ (dVar 4) (pSome (dC (.int 1))) (fun _ T k => k none T)) (aNil))))))))
def se_mirrored_through : SemX := semX ["sources", "goals", "images", "place", "found"] b_mirrored_through
theorem ex_mirrored_through (r : RK) (a0 a1 : SV) (T : Tk) (k : KD) : se_mirrored_through r [a0, a1] T k = b_mirrored_through (fun e _ T => r e T) { nx := fun _ T => k .non T, rt := k, bk := fun _ _ => False, ct := fun _ _ => False } [some a0, some a1, none, none, none] T := rfl
abbrev st_four_ratio : Stmt := topS 74
theorem sc_four_ratio : FnScope ["first", "second", "third", "fourth", "above"] ["first", "second", "third", "fourth"] (defScope st_four_ratio) := ⟨rfl, rfl, rfl, by decide +kernel, rfl, by decide +kernel, by decide +kernel⟩
def b_four_ratio : dS := sSeq (sAsg (dCall 2 sm_times (aCons (dCall 2 sm_apart (aCons (dVar 0) (aCons (dVar 2) (aNil)))) (aCons (dCall 2 sm_apart (aCons (dVar 1) (aCons (dVar 3) (aNil)))) (aNil)))) (gN 4)) (sRet (dCall 2 sm_quotient_place (aCons (dVar 4) (aCons (dCall 2 sm_times (aCons (dCall 2 sm_apart (aCons (dVar 1) (aCons (dVar 2) (aNil)))) (aCons (dCall 2 sm_apart (aCons (dVar 0) (aCons (dVar 3) (aNil)))) (aNil)))) (aNil)))))
def sm_four_ratio : Sem := semOf ["first", "second", "third", "fourth", "above"] b_four_ratio
theorem e_four_ratio (a0 a1 a2 a3 : SV) (T : Tk) (k : KD) : sm_four_ratio [a0, a1, a2, a3] T k = b_four_ratio { nx := fun _ T => k .non T, rt := k, bk := fun _ _ => False, ct := fun _ _ => False } [some a0, some a1, some a2, some a3, none] T := rfl
abbrev st_ratio_of_four : Stmt := topS 75
theorem sc_ratio_of_four : FnScope ["first", "second", "third", "fourth"] ["first", "second", "third", "fourth"] (defScope st_ratio_of_four) := ⟨rfl, rfl, rfl, by decide +kernel, rfl, by decide +kernel, by decide +kernel⟩
def b_ratio_of_four (r : RX) : dS := sSeq (sExpr (dCallX 1 se_check_apart r (aCons (dTup (aCons (dVar 0) (aCons (dVar 1) (aCons (dVar 2) (aCons (dVar 3) (aNil)))))) (aNil)))) (sRet (dCall 4 sm_four_ratio (aCons (dVar 0) (aCons (dVar 1) (aCons (dVar 2) (aCons (dVar 3) (aNil)))))))
def se_ratio_of_four : SemX := semX ["first", "second", "third", "fourth"] b_ratio_of_four
theorem ex_ratio_of_four (r : RK) (a0 a1 a2 a3 : SV) (T : Tk) (k : KD) : se_ratio_of_four r [a0, a1, a2, a3] T k = b_ratio_of_four (fun e _ T => r e T) { nx := fun _ T => k .non T, rt := k, bk := fun _ _ => False, ct := fun _ _ => False } [some a0, some a1, some a2, some a3] T := rfl
abbrev st_on_one_round : Stmt := topS 76
theorem sc_on_one_round : FnScope ["first", "second", "third", "fourth"] ["first", "second", "third", "fourth"] (defScope st_on_one_round) := ⟨rfl, rfl, rfl, by decide +kernel, rfl, by decide +kernel, by decide +kernel⟩
def b_on_one_round (r : RX) : dS := sRet (dOp (oF fEq) (dOp (oF fIx) (dCallX 4 se_ratio_of_four r (aCons (dVar 0) (aCons (dVar 1) (aCons (dVar 2) (aCons (dVar 3) (aNil)))))) (dC (.int 1))) (dC (.int 0)))
def se_on_one_round : SemX := semX ["first", "second", "third", "fourth"] b_on_one_round
theorem ex_on_one_round (r : RK) (a0 a1 a2 a3 : SV) (T : Tk) (k : KD) : se_on_one_round r [a0, a1, a2, a3] T k = b_on_one_round (fun e _ T => r e T) { nx := fun _ T => k .non T, rt := k, bk := fun _ _ => False, ct := fun _ _ => False } [some a0, some a1, some a2, some a3] T := rfl
abbrev st__law_tank : Stmt := topS 78
theorem sc__law_tank : FnScope ["_law_script", "_law_spot", "_law_stir", "_law_cell", "_law_own", "_law_rest"] ["_law_script", "_law_spot"] (defScope st__law_tank) := ⟨rfl, rfl, rfl, by decide +kernel, rfl, by decide +kernel, by decide +kernel⟩
def b__law_tank : En → Tk → KD → Prop := fun ρ T k => (sAsg (dOp (oF fAdd) (dC (.int 90011)) (dOp (oF fMul) (dC (.int 2003)) (dVar 1))) (gN 2)) { no0 with nx := fun ρ1 T1 => (fun ρ T k => (sForI (iQ (dSlQ (dVar 0) (fun _ T k => k none T) (pSome (dC (.int 9))))) (gN 3) (sAsg (dOp (oF fMod) (dBlt (oG fInt) (aCons (dOp (oF fAdd) (dOp (oF fAdd) (dOp (oF fMul) (dVar 2) (dC (.int 51977))) (dOp (oF fMod) (dBlt (oG fInt) (aCons (dVar 3) (aNil))) (dC (.int 2147483629)))) (dC (.int 37))) (aNil))) (dC (.int 2147483629))) (gN 2))) { no0 with nx := fun ρ1 T1 => (fun ρ T k => (sAsg (dIf (dTst (dOp (oF fLt) (dVar 1) (dBlt (oG fLen) (aCons (dVar 0) (aNil))))) (dBlt (oG fInt) (aCons (dOp (oF fIx) (dVar 0) (dVar 1)) (aNil))) (dVar 2)) (gN 4)) { no0 with nx := fun ρ1 T1 => (fun ρ T k => (sAsg (dIf (dOr (dTst (dOp (oF fLt) (dVar 4) (dC (.int 0)))) (dTst (dOp (oF fGe) (dVar 4) (dOp (oF fPow) (dC (.int 10)) (dC (.int 18)))))) (dBlt (oG (fI1 iAbs)) (aCons (dVar 4) (aNil))) (dC (.int 0))) (gN 5)) { no0 with nx := fun ρ1 T1 => (fun ρ T k => (aCons (dVar 5) (aCons (dOp (oF fMod) (dBlt (oG fInt) (aCons (dOp (oF fAdd) (dOp (oF fAdd) (dOp (oF fMul) (dVar 2) (dC (.int 33013))) (dOp (oF fMul) (dOp (oF fMod) (dBlt (oG fInt) (aCons (dVar 4) (aNil))) (dC (.int 2147483629))) (dC (.int 7001)))) (dC (.int 3))) (aNil))) (dC (.int 2147483629))) (aCons (dC (.int 0)) (aNil)))) ρ T fun as T1 => match vals? as with | some ds => ds.length ≤ 1000000 ∧ k (.lst ds) T1 | none => False) ρ1 T1 k } ρ T) ρ1 T1 k } ρ T) ρ1 T1 k } ρ T) ρ1 T1 k } ρ T
def sm__law_tank : Sem := semO ["_law_script", "_law_spot", "_law_stir", "_law_cell", "_law_own", "_law_rest"] b__law_tank
theorem e__law_tank (a0 a1 : SV) (T : Tk) (k : KD) : sm__law_tank [a0, a1] T k = b__law_tank [some a0, some a1, none, none, none, none] T k := rfl
abbrev st__law_draw : Stmt := topS 79
theorem sc__law_draw : FnScope ["_law_tank_here", "_law_many", "_law_figure", "_law_pace"] ["_law_tank_here", "_law_many"] (defScope st__law_draw) := ⟨rfl, rfl, rfl, by decide +kernel, rfl, by decide +kernel, by decide +kernel⟩
def b__law_draw : dS := sSeq (sIf (dTst (dOp (oF fGt) (dTix 0 (dC (.int 0))) (dC (.int 0)))) (sSeq (sAsg (dBlt (oG fDivmod) (aCons (dTix 0 (dC (.int 0))) (aCons (dVar 1) (aNil)))) (gTL 2 (gsCons (gTs 0 (dC (.int 0))) (gsCons (gN 2) (gsNil))))) (sRet (dVar 2))) ((fun k ρ T => k.nx ρ T))) (sSeq (sAsg (dOp (oF fAdd) (dTix 0 (dC (.int 2))) (dC (.int 1))) (gTs 0 (dC (.int 2)))) (sSeq (sAsg (dOp (oF fAdd) (dOp (oF fMod) (dBlt (oG fInt) (aCons (dTix 0 (dC (.int 1))) (aNil))) (dC (.int 9001))) (dC (.int 30011))) (gN 3)) (sSeq (sAsg (dOp (oF fMod) (dBlt (oG fInt) (aCons (dOp (oF fAdd) (dOp (oF fAdd) (dOp (oF fMul) (dTix 0 (dC (.int 1))) (dVar 3)) (dOp (oF fMul) (dC (.int 70001)) (dTix 0 (dC (.int 2))))) (dC (.int 19))) (aNil))) (dC (.int 2147483629))) (gTs 0 (dC (.int 1)))) (sRet (dOp (oF fMod) (dBlt (oG fInt) (aCons (dOp (oF fDiv) (dTix 0 (dC (.int 1))) (dC (.int 53))) (aNil))) (dVar 1))))))
def sm__law_draw : Sem := semOf ["_law_tank_here", "_law_many", "_law_figure", "_law_pace"] b__law_draw
theorem e__law_draw (a0 a1 : SV) (T : Tk) (k : KD) : sm__law_draw [a0, a1] T k = b__law_draw { nx := fun _ T => k .non T, rt := k, bk := fun _ _ => False, ct := fun _ _ => False } [some a0, some a1, none, none] T := rfl
abbrev st__law_pick : Stmt := topS 80
theorem sc__law_pick : FnScope ["_law_tank_here", "_law_some"] ["_law_tank_here", "_law_some"] (defScope st__law_pick) := ⟨rfl, rfl, rfl, by decide +kernel, rfl, by decide +kernel, by decide +kernel⟩
def b__law_pick : dS := sRet (dOp (oF fIx) (dVar 1) (dCall 2 sm__law_draw (aTank 0 (aCons (dBlt (oG fLen) (aCons (dVar 1) (aNil))) (aNil)))))
def sm__law_pick : Sem := semOf ["_law_tank_here", "_law_some"] b__law_pick
theorem e__law_pick (a0 a1 : SV) (T : Tk) (k : KD) : sm__law_pick [a0, a1] T k = b__law_pick { nx := fun _ T => k .non T, rt := k, bk := fun _ _ => False, ct := fun _ _ => False } [some a0, some a1] T := rfl
abbrev st__law_rounds : Stmt := topS 81
theorem sc__law_rounds : FnScope ["_law_script"] ["_law_script"] (defScope st__law_rounds) := ⟨rfl, rfl, rfl, by decide +kernel, rfl, by decide +kernel, by decide +kernel⟩
def b__law_rounds : dS := sRet (dBlt (oG (fI2 iMax)) (aCons (dC (.int 2)) (aCons (dBlt (oG (fI2 iMin)) (aCons (dBlt (oG fLen) (aCons (dVar 0) (aNil))) (aCons (dC (.int 3)) (aNil)))) (aNil))))
def sm__law_rounds : Sem := semOf ["_law_script"] b__law_rounds
theorem e__law_rounds (a0 : SV) (T : Tk) (k : KD) : sm__law_rounds [a0] T k = b__law_rounds { nx := fun _ T => k .non T, rt := k, bk := fun _ _ => False, ct := fun _ _ => False } [some a0] T := rfl
abbrev st__law_number : Stmt := topS 82
theorem sc__law_number : FnScope ["_law_tank_here", "_law_size_here"] ["_law_tank_here"] (defScope st__law_number) := ⟨rfl, rfl, rfl, by decide +kernel, rfl, by decide +kernel, by decide +kernel⟩
def b__law_number : dS := sSeq (sAsg (dCall 2 sm__law_pick (aTank 0 (aCons (dTup (aCons (dC (.int 1)) (aCons (dC (.int 2)) (aCons (dC (.int 3)) (aCons (dC (.int 9)) (aCons (dC (.int 9)) (aCons (dC (.int 99)) (aCons (dC (.int 0)) (aNil))))))))) (aNil)))) (gN 1)) (sSeq (sIf (dTst (dOp (oF fGt) (dVar 1) (dC (.int 0)))) (sRet (dOp (oF fSub) (dCall 2 sm__law_draw (aTank 0 (aCons (dOp (oF fAdd) (dOp (oF fMul) (dC (.int 2)) (dVar 1)) (dC (.int 1))) (aNil)))) (dVar 1))) ((fun k ρ T => k.nx ρ T))) (sRet (dOp (oF fMul) (dOp (oF fAdd) (dOp (oF fMul) (dCall 2 sm__law_draw (aTank 0 (aCons (dC (.int 1000003)) (aNil)))) (dC (.int 1000003))) (dCall 2 sm__law_draw (aTank 0 (aCons (dC (.int 1000003)) (aNil))))) (dOp (oF fSub) (dC (.int 1)) (dOp (oF fMul) (dC (.int 2)) (dCall 2 sm__law_draw (aTank 0 (aCons (dC (.int 2)) (aNil)))))))))
def sm__law_number : Sem := semOf ["_law_tank_here", "_law_size_here"] b__law_number
theorem e__law_number (a0 : SV) (T : Tk) (k : KD) : sm__law_number [a0] T k = b__law_number { nx := fun _ T => k .non T, rt := k, bk := fun _ _ => False, ct := fun _ _ => False } [some a0, none] T := rfl
abbrev st__law_small : Stmt := topS 83
theorem sc__law_small : FnScope ["_law_tank_here", "_law_size_here"] ["_law_tank_here"] (defScope st__law_small) := ⟨rfl, rfl, rfl, by decide +kernel, rfl, by decide +kernel, by decide +kernel⟩
def b__law_small : dS := sSeq (sAsg (dCall 2 sm__law_pick (aTank 0 (aCons (dTup (aCons (dC (.int 1)) (aCons (dC (.int 2)) (aCons (dC (.int 3)) (aCons (dC (.int 5)) (aCons (dC (.int 9)) (aNil))))))) (aNil)))) (gN 1)) (sRet (dOp (oF fSub) (dCall 2 sm__law_draw (aTank 0 (aCons (dOp (oF fAdd) (dOp (oF fMul) (dC (.int 2)) (dVar 1)) (dC (.int 1))) (aNil)))) (dVar 1)))
def sm__law_small : Sem := semOf ["_law_tank_here", "_law_size_here"] b__law_small
theorem e__law_small (a0 : SV) (T : Tk) (k : KD) : sm__law_small [a0] T k = b__law_small { nx := fun _ T => k .non T, rt := k, bk := fun _ _ => False, ct := fun _ _ => False } [some a0, none] T := rfl
abbrev st__law_least : Stmt := topS 84
theorem sc__law_least : FnScope ["_law_numbers", "_law_part", "_law_number_here", "_law_left", "_law_right_here"] ["_law_numbers"] (defScope st__law_least) := ⟨rfl, rfl, rfl, by decide +kernel, rfl, by decide +kernel, by decide +kernel⟩
def b__law_least : dS := sSeq (sAsg (dC (.int 0)) (gN 1)) (sSeq (sForI (iQ (dVar 0)) (gN 2) (sSeq (sPar 3 4 (aCons (dVar 1) (aCons (dBlt (oG (fI1 iAbs)) (aCons (dVar 2) (aNil))) (aNil)))) (sSeq (sWhile (dTst (dOp (oF fGt) (dVar 4) (dC (.int 0)))) (sPar 3 4 (aCons (dVar 4) (aCons (dOp (oF fMod) (dBlt (oG fInt) (aCons (dVar 3) (aNil))) (dVar 4)) (aNil))))) (sAsg (dVar 3) (gN 1))))) (sRet (dBlt (oG fTuple) (aCons (dLc [2] (iQ (dVar 0)) (cN 2) dYes (dOp (oF fDiv) (dVar 2) (dVar 1))) (aNil)))))
def sm__law_least : Sem := semOf ["_law_numbers", "_law_part", "_law_number_here", "_law_left", "_law_right_here"] b__law_least
theorem e__law_least (a0 : SV) (T : Tk) (k : KD) : sm__law_least [a0] T k = b__law_least { nx := fun _ T => k .non T, rt := k, bk := fun _ _ => False, ct := fun _ _ => False } [some a0, none, none, none, none] T := rfl
abbrev st__law_less : Stmt := topS 85
theorem sc__law_less : FnScope ["_law_one", "_law_two"] ["_law_one", "_law_two"] (defScope st__law_less) := ⟨rfl, rfl, rfl, by decide +kernel, rfl, by decide +kernel, by decide +kernel⟩
def b__law_less : dS := sRet (dTup (aCons (dOp (oF fSub) (dOp (oF fIx) (dVar 0) (dC (.int 0))) (dOp (oF fIx) (dVar 1) (dC (.int 0)))) (aCons (dOp (oF fSub) (dOp (oF fIx) (dVar 0) (dC (.int 1))) (dOp (oF fIx) (dVar 1) (dC (.int 1)))) (aNil))))
def sm__law_less : Sem := semOf ["_law_one", "_law_two"] b__law_less
theorem e__law_less (a0 a1 : SV) (T : Tk) (k : KD) : sm__law_less [a0, a1] T k = b__law_less { nx := fun _ T => k .non T, rt := k, bk := fun _ _ => False, ct := fun _ _ => False } [some a0, some a1] T := rfl
abbrev st__law_times : Stmt := topS 86
theorem sc__law_times : FnScope ["_law_one", "_law_two"] ["_law_one", "_law_two"] (defScope st__law_times) := ⟨rfl, rfl, rfl, by decide +kernel, rfl, by decide +kernel, by decide +kernel⟩
def b__law_times : dS := sRet (dTup (aCons (dOp (oF fSub) (dOp (oF fMul) (dOp (oF fIx) (dVar 0) (dC (.int 0))) (dOp (oF fIx) (dVar 1) (dC (.int 0)))) (dOp (oF fMul) (dOp (oF fIx) (dVar 0) (dC (.int 1))) (dOp (oF fIx) (dVar 1) (dC (.int 1))))) (aCons (dOp (oF fAdd) (dOp (oF fMul) (dOp (oF fIx) (dVar 0) (dC (.int 0))) (dOp (oF fIx) (dVar 1) (dC (.int 1)))) (dOp (oF fMul) (dOp (oF fIx) (dVar 0) (dC (.int 1))) (dOp (oF fIx) (dVar 1) (dC (.int 0))))) (aNil))))
def sm__law_times : Sem := semOf ["_law_one", "_law_two"] b__law_times
theorem e__law_times (a0 a1 : SV) (T : Tk) (k : KD) : sm__law_times [a0, a1] T k = b__law_times { nx := fun _ T => k .non T, rt := k, bk := fun _ _ => False, ct := fun _ _ => False } [some a0, some a1] T := rfl
abbrev st__law_star : Stmt := topS 87
theorem sc__law_star : FnScope ["_law_one"] ["_law_one"] (defScope st__law_star) := ⟨rfl, rfl, rfl, by decide +kernel, rfl, by decide +kernel, by decide +kernel⟩
def b__law_star : dS := sRet (dTup (aCons (dOp (oF fIx) (dVar 0) (dC (.int 0))) (aCons (dOp (oF fSub) (dC (.int 0)) (dOp (oF fIx) (dVar 0) (dC (.int 1)))) (aNil))))
def sm__law_star : Sem := semOf ["_law_one"] b__law_star
theorem e__law_star (a0 : SV) (T : Tk) (k : KD) : sm__law_star [a0] T k = b__law_star { nx := fun _ T => k .non T, rt := k, bk := fun _ _ => False, ct := fun _ _ => False } [some a0] T := rfl
abbrev st__law_size : Stmt := topS 88
theorem sc__law_size : FnScope ["_law_one"] ["_law_one"] (defScope st__law_size) := ⟨rfl, rfl, rfl, by decide +kernel, rfl, by decide +kernel, by decide +kernel⟩
def b__law_size : dS := sRet (dOp (oF fAdd) (dOp (oF fMul) (dOp (oF fIx) (dVar 0) (dC (.int 0))) (dOp (oF fIx) (dVar 0) (dC (.int 0)))) (dOp (oF fMul) (dOp (oF fIx) (dVar 0) (dC (.int 1))) (dOp (oF fIx) (dVar 0) (dC (.int 1)))))
def sm__law_size : Sem := semOf ["_law_one"] b__law_size
theorem e__law_size (a0 : SV) (T : Tk) (k : KD) : sm__law_size [a0] T k = b__law_size { nx := fun _ T => k .non T, rt := k, bk := fun _ _ => False, ct := fun _ _ => False } [some a0] T := rfl
abbrev st__law_quarter : Stmt := topS 89
theorem sc__law_quarter : FnScope ["_law_one", "_law_a", "_law_b", "_law_turn"] ["_law_one"] (defScope st__law_quarter) := ⟨rfl, rfl, rfl, by decide +kernel, rfl, by decide +kernel, by decide +kernel⟩
def b__law_quarter : dS := sSeq (sAsg (dVar 0) (gTL 2 (gsCons (gN 1) (gsCons (gN 2) (gsNil))))) (sSeq (sForI (iR1 (aCons (dC (.int 4)) (aNil))) (gN 3) (sSeq (sIf (dAnd (dTst (dOp (oF fGt) (dVar 1) (dC (.int 0)))) (dTst (dOp (oF fGe) (dVar 2) (dC (.int 0))))) (sRet (dTup (aCons (dVar 1) (aCons (dVar 2) (aNil))))) ((fun k ρ T => k.nx ρ T))) (sPar 1 2 (aCons (dOp (oF fSub) (dC (.int 0)) (dVar 2)) (aCons (dVar 1) (aNil)))))) (sRet (dTup (aCons (dC (.int 0)) (aCons (dC (.int 0)) (aNil))))))
def sm__law_quarter : Sem := semOf ["_law_one", "_law_a", "_law_b", "_law_turn"] b__law_quarter
theorem e__law_quarter (a0 : SV) (T : Tk) (k : KD) : sm__law_quarter [a0] T k = b__law_quarter { nx := fun _ T => k .non T, rt := k, bk := fun _ _ => False, ct := fun _ _ => False } [some a0, none, none, none] T := rfl
abbrev st__law_over : Stmt := topS 90
theorem sc__law_over : FnScope ["_law_one", "_law_two", "_law_size_here", "_law_a", "_law_b"] ["_law_one", "_law_two"] (defScope st__law_over) := ⟨rfl, rfl, rfl, by decide +kernel, rfl, by decide +kernel, by decide +kernel⟩
def b__law_over : dS := sSeq (sAsg (dCall 1 sm__law_size (aCons (dVar 1) (aNil))) (gN 2)) (sSeq (sIf (dTst (dOp (oF fEq) (dVar 2) (dC (.int 0)))) (sRet (dC .non)) ((fun k ρ T => k.nx ρ T))) (sSeq (sAsg (dCall 2 sm__law_times (aCons (dVar 0) (aCons (dCall 1 sm__law_star (aCons (dVar 1) (aNil))) (aNil)))) (gTL 2 (gsCons (gN 3) (gsCons (gN 4) (gsNil))))) (sRet (dIf (dAnd (dTst (dOp (oF fEq) (dOp (oF fMod) (dBlt (oG fInt) (aCons (dVar 3) (aNil))) (dVar 2)) (dC (.int 0)))) (dTst (dOp (oF fEq) (dOp (oF fMod) (dBlt (oG fInt) (aCons (dVar 4) (aNil))) (dVar 2)) (dC (.int 0))))) (dTup (aCons (dOp (oF fDiv) (dVar 3) (dVar 2)) (aCons (dOp (oF fDiv) (dVar 4) (dVar 2)) (aNil)))) (dC .non)))))
def sm__law_over : Sem := semOf ["_law_one", "_law_two", "_law_size_here", "_law_a", "_law_b"] b__law_over
theorem e__law_over (a0 a1 : SV) (T : Tk) (k : KD) : sm__law_over [a0, a1] T k = b__law_over { nx := fun _ T => k .non T, rt := k, bk := fun _ _ => False, ct := fun _ _ => False } [some a0, some a1, none, none, none] T := rfl
abbrev st__law_common : Stmt := topS 91
theorem sc__law_common : FnScope ["_law_numbers", "_law_found", "_law_number_here", "_law_one", "_law_two", "_law_turn", "_law_size_here", "_law_a", "_law_b", "_law_near_here"] ["_law_numbers"] (defScope st__law_common) := ⟨rfl, rfl, rfl, by decide +kernel, rfl, by decide +kernel, by decide +kernel⟩
def b__law_common : dS := sSeq (sAsg (dTup (aCons (dC (.int 0)) (aCons (dC (.int 0)) (aNil)))) (gN 1)) (sSeq (sForI (iQ (dVar 0)) (gN 2) (sSeq (sPar 3 4 (aCons (dVar 1) (aCons (dVar 2) (aNil)))) (sSeq (sForI (iR1 (aCons (dC (.int 2000)) (aNil))) (gN 5) (sSeq (sAsg (dCall 1 sm__law_size (aCons (dVar 4) (aNil))) (gN 6)) (sSeq (sIf (dTst (dOp (oF fEq) (dVar 6) (dC (.int 0)))) ((fun k ρ T => k.bk ρ T)) ((fun k ρ T => k.nx ρ T))) (sSeq (sAsg (dCall 2 sm__law_times (aCons (dVar 3) (aCons (dCall 1 sm__law_star (aCons (dVar 4) (aNil))) (aNil)))) (gTL 2 (gsCons (gN 7) (gsCons (gN 8) (gsNil))))) (sSeq (sAsg (dTup (aCons (dOp (oF fDiv) (dOp (oF fAdd) (dOp (oF fMul) (dC (.int 2)) (dVar 7)) (dVar 6)) (dOp (oF fMul) (dC (.int 2)) (dVar 6))) (aCons (dOp (oF fDiv) (dOp (oF fAdd) (dOp (oF fMul) (dC (.int 2)) (dVar 8)) (dVar 6)) (dOp (oF fMul) (dC (.int 2)) (dVar 6))) (aNil)))) (gN 9)) (sPar 3 4 (aCons (dVar 4) (aCons (dCall 2 sm__law_less (aCons (dVar 3) (aCons (dCall 2 sm__law_times (aCons (dVar 9) (aCons (dVar 4) (aNil)))) (aNil)))) (aNil))))))))) (sAsg (dVar 3) (gN 1))))) (sRet (dVar 1)))
def sm__law_common : Sem := semOf ["_law_numbers", "_law_found", "_law_number_here", "_law_one", "_law_two", "_law_turn", "_law_size_here", "_law_a", "_law_b", "_law_near_here"] b__law_common
theorem e__law_common (a0 : SV) (T : Tk) (k : KD) : sm__law_common [a0] T k = b__law_common { nx := fun _ T => k .non T, rt := k, bk := fun _ _ => False, ct := fun _ _ => False } [some a0, none, none, none, none, none, none, none, none, none] T := rfl
abbrev st__law_form : Stmt := topS 92
theorem sc__law_form : FnScope ["_law_row_here", "_law_number_here"] ["_law_row_here"] (defScope st__law_form) := ⟨rfl, rfl, rfl, by decide +kernel, rfl, by decide +kernel, by decide +kernel⟩
def b__law_form : dS := sSeq (sAsg (dCall 1 sm__law_least (aCons (dVar 0) (aNil))) (gN 0)) (sRet (dIf (dTst (dOp (oF fGt) (dOp (oF fIx) (dLc [1] (iQ (dVar 0)) (cN 1) (dTst (dOp (oF fNe) (dVar 1) (dC (.int 0)))) (dVar 1)) (dC (.int 0))) (dC (.int 0)))) (dVar 0) (dBlt (oG fTuple) (aCons (dLc [1] (iQ (dVar 0)) (cN 1) dYes (dOp (oF fSub) (dC (.int 0)) (dVar 1))) (aNil)))))
def sm__law_form : Sem := semOf ["_law_row_here", "_law_number_here"] b__law_form
theorem e__law_form (a0 : SV) (T : Tk) (k : KD) : sm__law_form [a0] T k = b__law_form { nx := fun _ T => k .non T, rt := k, bk := fun _ _ => False, ct := fun _ _ => False } [some a0, none] T := rfl
abbrev st__law_near : Stmt := topS 93
theorem sc__law_near : FnScope ["_law_tank_here"] ["_law_tank_here"] (defScope st__law_near) := ⟨rfl, rfl, rfl, by decide +kernel, rfl, by decide +kernel, by decide +kernel⟩
def b__law_near : dS := sRet (dCall 1 sm__law_least (aCons (dTup (aCons (dCall 1 sm__law_small (aTank 0 (aNil))) (aCons (dCall 1 sm__law_small (aTank 0 (aNil))) (aCons (dOp (oF fAdd) (dC (.int 1)) (dCall 2 sm__law_draw (aTank 0 (aCons (dCall 2 sm__law_pick (aTank 0 (aCons (dTup (aCons (dC (.int 1)) (aCons (dC (.int 1)) (aCons (dC (.int 2)) (aCons (dC (.int 4)) (aNil)))))) (aNil)))) (aNil))))) (aNil))))) (aNil)))
def sm__law_near : Sem := semOf ["_law_tank_here"] b__law_near
theorem e__law_near (a0 : SV) (T : Tk) (k : KD) : sm__law_near [a0] T k = b__law_near { nx := fun _ T => k .non T, rt := k, bk := fun _ _ => False, ct := fun _ _ => False } [some a0] T := rfl
abbrev st__law_row : Stmt := topS 94
theorem sc__law_row : FnScope ["_law_tank_here", "_law_q", "_law_l", "_law_m", "_law_k", "_law_way"] ["_law_tank_here"] (defScope st__law_row) := ⟨rfl, rfl, rfl, by decide +kernel, rfl, by decide +kernel, by decide +kernel⟩
def b__law_row : dS := sSeq (sAsg (dTup (aCons (dCall 1 sm__law_small (aTank 0 (aNil))) (aCons (dCall 1 sm__law_small (aTank 0 (aNil))) (aCons (dCall 1 sm__law_small (aTank 0 (aNil))) (aCons (dCall 1 sm__law_small (aTank 0 (aNil))) (aNil)))))) (gTL 4 (gsCons (gN 1) (gsCons (gN 2) (gsCons (gN 3) (gsCons (gN 4) (gsNil))))))) (sSeq (sAsg (dCall 2 sm__law_draw (aTank 0 (aCons (dC (.int 6)) (aNil)))) (gN 5)) (sSeq (sIf (dTst (dOp (oF fEq) (dVar 5) (dC (.int 0)))) (sPar 1 4 (aCons (dC (.int 0)) (aCons (dCall 1 sm__law_number (aTank 0 (aNil))) (aNil)))) ((fun k ρ T => k.nx ρ T))) (sSeq (sIf (dTst (dOp (oF fEq) (dVar 5) (dC (.int 1)))) (sPar3 2 3 4 (aCons (dCall 1 sm__law_number (aTank 0 (aNil))) (aCons (dCall 1 sm__law_number (aTank 0 (aNil))) (aCons (dCall 1 sm__law_number (aTank 0 (aNil))) (aNil))))) ((fun k ρ T => k.nx ρ T))) (sSeq (sIf (dTst (dOp (oF fLe) (dOp (oF fAdd) (dOp (oF fMul) (dVar 2) (dVar 2)) (dOp (oF fMul) (dVar 3) (dVar 3))) (dOp (oF fMul) (dOp (oF fMul) (dC (.int 4)) (dVar 1)) (dVar 4)))) (sAsg (dOp (oF fSub) (dC (.int 0)) (dVar 4)) (gN 4)) ((fun k ρ T => k.nx ρ T))) (sSeq (sIf (dTst (dOp (oF fLe) (dOp (oF fAdd) (dOp (oF fMul) (dVar 2) (dVar 2)) (dOp (oF fMul) (dVar 3) (dVar 3))) (dOp (oF fMul) (dOp (oF fMul) (dC (.int 4)) (dVar 1)) (dVar 4)))) (sAsg (dC (.int 1)) (gN 2)) ((fun k ρ T => k.nx ρ T))) (sRet (dCall 1 sm__law_least (aCons (dTup (aCons (dVar 1) (aCons (dVar 2) (aCons (dVar 3) (aCons (dVar 4) (aNil)))))) (aNil)))))))))
def sm__law_row : Sem := semOf ["_law_tank_here", "_law_q", "_law_l", "_law_m", "_law_k", "_law_way"] b__law_row
theorem e__law_row (a0 : SV) (T : Tk) (k : KD) : sm__law_row [a0] T k = b__law_row { nx := fun _ T => k .non T, rt := k, bk := fun _ _ => False, ct := fun _ _ => False } [some a0, none, none, none, none, none] T := rfl
abbrev st__law_any_place : Stmt := topS 95
theorem sc__law_any_place : FnScope ["_law_tank_here"] ["_law_tank_here"] (defScope st__law_any_place) := ⟨rfl, rfl, rfl, by decide +kernel, rfl, by decide +kernel, by decide +kernel⟩
def b__law_any_place : dS := sRet (dIf (dTst (dOp (oF fEq) (dCall 2 sm__law_draw (aTank 0 (aCons (dC (.int 8)) (aNil)))) (dC (.int 0)))) (dTup (aCons (dC (.int 1)) (aCons (dC (.int 0)) (aCons (dC (.int 0)) (aNil))))) (dCall 1 sm__law_near (aTank 0 (aNil))))
def sm__law_any_place : Sem := semOf ["_law_tank_here"] b__law_any_place
theorem e__law_any_place (a0 : SV) (T : Tk) (k : KD) : sm__law_any_place [a0] T k = b__law_any_place { nx := fun _ T => k .non T, rt := k, bk := fun _ _ => False, ct := fun _ _ => False } [some a0] T := rfl
abbrev st__law_unlike : Stmt := topS 96
theorem sc__law_unlike : FnScope ["_law_tank_here", "_law_many", "_law_found", "_law_turn", "_law_here", "_law_step"] ["_law_tank_here", "_law_many"] (defScope st__law_unlike) := ⟨rfl, rfl, rfl, by decide +kernel, rfl, by decide +kernel, by decide +kernel⟩
def b__law_unlike : dS := sSeq (sOwn 2 (aNil)) (sSeq (sForI (iR1 (aCons (dVar 1) (aNil))) (gN 3) (sSeq (sAsg (dCall 1 sm__law_any_place (aTank 0 (aNil))) (gN 4)) (sSeq (sForI (iR1 (aCons (dVar 1) (aNil))) (gN 5) (sIf (dViewT 2 (dTst (dOp (oF fInS) (dVar 4) (dVar 2)))) (sAsg (dCall 1 sm__law_least (aCons (dTup (aCons (dOp (oF fAdd) (dOp (oF fAdd) (dOp (oF fMul) (dC (.int 2)) (dVar 3)) (dVar 5)) (dC (.int 7))) (aCons (dOp (oF fSub) (dVar 5) (dVar 3)) (aCons (dOp (oF fAdd) (dC (.int 1)) (dVar 3)) (aNil))))) (aNil))) (gN 4)) ((fun k ρ T => k.nx ρ T)))) (sApp 2 (dVar 4))))) (sFrq 2 (sRet (dVar 2))))
def sm__law_unlike : Sem := semOf ["_law_tank_here", "_law_many", "_law_found", "_law_turn", "_law_here", "_law_step"] b__law_unlike
theorem e__law_unlike (a0 a1 : SV) (T : Tk) (k : KD) : sm__law_unlike [a0, a1] T k = b__law_unlike { nx := fun _ T => k .non T, rt := k, bk := fun _ _ => False, ct := fun _ _ => False } [some a0, some a1, none, none, none, none] T := rfl
abbrev st__law_little : Stmt := topS 97
theorem sc__law_little : FnScope ["_law_tank_here"] ["_law_tank_here"] (defScope st__law_little) := ⟨rfl, rfl, rfl, by decide +kernel, rfl, by decide +kernel, by decide +kernel⟩
def b__law_little : dS := sRet (dTup (aCons (dCall 1 sm__law_small (aTank 0 (aNil))) (aCons (dCall 1 sm__law_small (aTank 0 (aNil))) (aNil))))
def sm__law_little : Sem := semOf ["_law_tank_here"] b__law_little
theorem e__law_little (a0 : SV) (T : Tk) (k : KD) : sm__law_little [a0] T k = b__law_little { nx := fun _ T => k .non T, rt := k, bk := fun _ _ => False, ct := fun _ _ => False } [some a0] T := rfl
abbrev st__law_map : Stmt := topS 98
theorem sc__law_map : FnScope ["_law_flag", "_law_numbers", "_law_part", "_law_rest", "_law_each", "_law_first", "_law_unit"] ["_law_flag", "_law_numbers"] (defScope st__law_map) := ⟨rfl, rfl, rfl, by decide +kernel, rfl, by decide +kernel, by decide +kernel⟩
def b__law_map : dS := sSeq (sAsg (dCall 1 sm__law_common (aCons (dVar 1) (aNil))) (gN 2)) (sSeq (sAsg (dLc [4] (iQ (dVar 1)) (cN 4) dYes (dCall 2 sm__law_over (aCons (dVar 4) (aCons (dVar 2) (aNil))))) (gN 3)) (sSeq (sAsg (dOp (oF fIx) (dLc [4] (iQ (dVar 3)) (cN 4) (dTst (dOp (oF fNe) (dVar 4) (dTup (aCons (dC (.int 0)) (aCons (dC (.int 0)) (aNil)))))) (dVar 4)) (dC (.int 0))) (gN 5)) (sSeq (sAsg (dCall 2 sm__law_over (aCons (dCall 1 sm__law_quarter (aCons (dVar 5) (aNil))) (aCons (dVar 5) (aNil)))) (gN 6)) (sSeq (sAsg (dLc [4] (iQ (dVar 3)) (cN 4) dYes (dCall 2 sm__law_times (aCons (dVar 4) (aCons (dVar 6) (aNil))))) (gN 3)) (sRet (dTup (aCons (dVar 0) (aCons (dOp (oF fIx) (dVar 3) (dC (.int 0))) (aCons (dOp (oF fIx) (dVar 3) (dC (.int 1))) (aCons (dOp (oF fIx) (dVar 3) (dC (.int 2))) (aCons (dOp (oF fIx) (dVar 3) (dC (.int 3))) (aNil))))))))))))
def sm__law_map : Sem := semOf ["_law_flag", "_law_numbers", "_law_part", "_law_rest", "_law_each", "_law_first", "_law_unit"] b__law_map
theorem e__law_map (a0 a1 : SV) (T : Tk) (k : KD) : sm__law_map [a0, a1] T k = b__law_map { nx := fun _ T => k .non T, rt := k, bk := fun _ _ => False, ct := fun _ _ => False } [some a0, some a1, none, none, none, none, none] T := rfl
abbrev st__law_det : Stmt := topS 99
theorem sc__law_det : FnScope ["_law_numbers"] ["_law_numbers"] (defScope st__law_det) := ⟨rfl, rfl, rfl, by decide +kernel, rfl, by decide +kernel, by decide +kernel⟩
def b__law_det : dS := sRet (dCall 2 sm__law_less (aCons (dCall 2 sm__law_times (aCons (dOp (oF fIx) (dVar 0) (dC (.int 0))) (aCons (dOp (oF fIx) (dVar 0) (dC (.int 3))) (aNil)))) (aCons (dCall 2 sm__law_times (aCons (dOp (oF fIx) (dVar 0) (dC (.int 1))) (aCons (dOp (oF fIx) (dVar 0) (dC (.int 2))) (aNil)))) (aNil))))
def sm__law_det : Sem := semOf ["_law_numbers"] b__law_det
theorem e__law_det (a0 : SV) (T : Tk) (k : KD) : sm__law_det [a0] T k = b__law_det { nx := fun _ T => k .non T, rt := k, bk := fun _ _ => False, ct := fun _ _ => False } [some a0] T := rfl
abbrev st__law_four : Stmt := topS 100
theorem sc__law_four : FnScope ["_law_tank_here", "_law_way", "_law_turn", "_law_found"] ["_law_tank_here"] (defScope st__law_four) := ⟨rfl, rfl, rfl, by decide +kernel, rfl, by decide +kernel, by decide +kernel⟩
def b__law_four : dS := sSeq (sAsg (dCall 2 sm__law_draw (aTank 0 (aCons (dC (.int 8)) (aNil)))) (gN 1)) (sSeq (sForI (iR1 (aCons (dC (.int 3)) (aNil))) (gN 2) (sSeq (sOwn 3 (aCons (dCall 1 sm__law_little (aTank 0 (aNil))) (aCons (dCall 1 sm__law_little (aTank 0 (aNil))) (aCons (dCall 1 sm__law_little (aTank 0 (aNil))) (aCons (dCall 1 sm__law_little (aTank 0 (aNil))) (aNil)))))) (sSeq (sIf (dTst (dOp (oF fEq) (dVar 1) (dC (.int 0)))) (sAsg (dTup (aCons (dTup (aCons (dC (.int 1)) (aCons (dC (.int 0)) (aNil)))) (aCons (dTup (aCons (dC (.int 0)) (aCons (dC (.int 0)) (aNil)))) (aCons (dTup (aCons (dC (.int 1)) (aCons (dC (.int 0)) (aNil)))) (aNil))))) (gTL 3 (gsCons (gOs 3 (dC (.int 0))) (gsCons (gOs 3 (dC (.int 2))) (gsCons (gOs 3 (dC (.int 3))) (gsNil)))))) ((fun k ρ T => k.nx ρ T))) (sSeq (sIf (dTst (dOp (oF fEq) (dVar 1) (dC (.int 1)))) (sAsg (dTup (aCons (dTup (aCons (dC (.int 0)) (aCons (dC (.int 0)) (aNil)))) (aCons (dTup (aCons (dC (.int 0)) (aCons (dC (.int 0)) (aNil)))) (aNil)))) (gTL 2 (gsCons (gOs 3 (dC (.int 1))) (gsCons (gOs 3 (dC (.int 2))) (gsNil))))) ((fun k ρ T => k.nx ρ T))) (sSeq (sIf (dTst (dOp (oF fEq) (dVar 1) (dC (.int 2)))) (sAsg (dTup (aCons (dTup (aCons (dC (.int 0)) (aCons (dC (.int 0)) (aNil)))) (aCons (dTup (aCons (dC (.int 0)) (aCons (dC (.int 0)) (aNil)))) (aNil)))) (gTL 2 (gsCons (gOs 3 (dC (.int 0))) (gsCons (gOs 3 (dC (.int 3))) (gsNil))))) ((fun k ρ T => k.nx ρ T))) (sIf (dViewT 3 (dTst (dOp (oF fNe) (dCall 1 sm__law_det (aCons (dVar 3) (aNil))) (dTup (aCons (dC (.int 0)) (aCons (dC (.int 0)) (aNil))))))) (sFrq 3 (sRet (dVar 3))) ((fun k ρ T => k.nx ρ T)))))))) (sRet (dLst (aCons (dTup (aCons (dC (.int 1)) (aCons (dC (.int 0)) (aNil)))) (aCons (dTup (aCons (dC (.int 2)) (aCons (dC (.int 1)) (aNil)))) (aCons (dTup (aCons (dC (.int 0)) (aCons (dC (.int 0)) (aNil)))) (aCons (dTup (aCons (dC (.int 1)) (aCons (dC (.int 0)) (aNil)))) (aNil))))))))
def sm__law_four : Sem := semOf ["_law_tank_here", "_law_way", "_law_turn", "_law_found"] b__law_four
theorem e__law_four (a0 : SV) (T : Tk) (k : KD) : sm__law_four [a0] T k = b__law_four { nx := fun _ T => k .non T, rt := k, bk := fun _ _ => False, ct := fun _ _ => False } [some a0, none, none, none] T := rfl
abbrev st__law_drawn_map : Stmt := topS 101
theorem sc__law_drawn_map : FnScope ["_law_tank_here"] ["_law_tank_here"] (defScope st__law_drawn_map) := ⟨rfl, rfl, rfl, by decide +kernel, rfl, by decide +kernel, by decide +kernel⟩
def b__law_drawn_map : dS := sRet (dCall 2 sm__law_map (aCons (dCall 2 sm__law_draw (aTank 0 (aCons (dC (.int 2)) (aNil)))) (aCons (dCall 1 sm__law_four (aTank 0 (aNil))) (aNil))))
def sm__law_drawn_map : Sem := semOf ["_law_tank_here"] b__law_drawn_map
theorem e__law_drawn_map (a0 : SV) (T : Tk) (k : KD) : sm__law_drawn_map [a0] T k = b__law_drawn_map { nx := fun _ T => k .non T, rt := k, bk := fun _ _ => False, ct := fun _ _ => False } [some a0] T := rfl
abbrev st__law_run : Stmt := topS 102
theorem sc__law_run : FnScope ["_law_way", "_law_some"] ["_law_way", "_law_some"] (defScope st__law_run) := ⟨rfl, rfl, rfl, by decide +kernel, rfl, by decide +kernel, by decide +kernel⟩
def b__law_run (r : RX) : dS := sSeq (sIf (dTst (dOp (oF fEq) (dVar 0) (dC (.str "map")))) (sRet (dCallX 5 se_map_of r (aCons (dOp (oF fIx) (dVar 1) (dC (.int 0))) (aCons (dOp (oF fIx) (dVar 1) (dC (.int 1))) (aCons (dOp (oF fIx) (dVar 1) (dC (.int 2))) (aCons (dOp (oF fIx) (dVar 1) (dC (.int 3))) (aCons (dOp (oF fIx) (dVar 1) (dC (.int 4))) (aNil)))))))) ((fun k ρ T => k.nx ρ T))) (sSeq (sIf (dTst (dOp (oF fEq) (dVar 0) (dC (.str "led")))) (sRet (dCallX 2 se_led_place r (aCons (dOp (oF fIx) (dVar 1) (dC (.int 0))) (aCons (dOp (oF fIx) (dVar 1) (dC (.int 1))) (aNil))))) ((fun k ρ T => k.nx ρ T))) (sSeq (sIf (dTst (dOp (oF fEq) (dVar 0) (dC (.str "round")))) (sRet (dCallX 2 se_led_round r (aCons (dOp (oF fIx) (dVar 1) (dC (.int 0))) (aCons (dOp (oF fIx) (dVar 1) (dC (.int 1))) (aNil))))) ((fun k ρ T => k.nx ρ T))) (sSeq (sIf (dTst (dOp (oF fEq) (dVar 0) (dC (.str "straight")))) (sRet (dCallX 2 se_is_straight r (aCons (dOp (oF fIx) (dVar 1) (dC (.int 0))) (aCons (dOp (oF fIx) (dVar 1) (dC (.int 1))) (aNil))))) ((fun k ρ T => k.nx ρ T))) (sSeq (sIf (dTst (dOp (oF fEq) (dVar 0) (dC (.str "after")))) (sRet (dCallX 2 se_after r (aCons (dOp (oF fIx) (dVar 1) (dC (.int 0))) (aCons (dOp (oF fIx) (dVar 1) (dC (.int 1))) (aNil))))) ((fun k ρ T => k.nx ρ T))) (sSeq (sIf (dTst (dOp (oF fEq) (dVar 0) (dC (.str "back")))) (sRet (dCallX 1 se_back r (aCons (dOp (oF fIx) (dVar 1) (dC (.int 0))) (aNil)))) ((fun k ρ T => k.nx ρ T))) (sSeq (sIf (dTst (dOp (oF fEq) (dVar 0) (dC (.str "mirror")))) (sRet (dCallX 1 se_mirror_in r (aCons (dOp (oF fIx) (dVar 1) (dC (.int 0))) (aNil)))) ((fun k ρ T => k.nx ρ T))) (sSeq (sIf (dTst (dOp (oF fEq) (dVar 0) (dC (.str "plain")))) (sRet (dCallX 2 se_plain_through r (aCons (dOp (oF fIx) (dVar 1) (dC (.int 0))) (aCons (dOp (oF fIx) (dVar 1) (dC (.int 1))) (aNil))))) ((fun k ρ T => k.nx ρ T))) (sSeq (sIf (dTst (dOp (oF fEq) (dVar 0) (dC (.str "mirrored")))) (sRet (dCallX 2 se_mirrored_through r (aCons (dOp (oF fIx) (dVar 1) (dC (.int 0))) (aCons (dOp (oF fIx) (dVar 1) (dC (.int 1))) (aNil))))) ((fun k ρ T => k.nx ρ T))) (sSeq (sIf (dTst (dOp (oF fEq) (dVar 0) (dC (.str "ratio")))) (sRet (dCallX 4 se_ratio_of_four r (aCons (dOp (oF fIx) (dVar 1) (dC (.int 0))) (aCons (dOp (oF fIx) (dVar 1) (dC (.int 1))) (aCons (dOp (oF fIx) (dVar 1) (dC (.int 2))) (aCons (dOp (oF fIx) (dVar 1) (dC (.int 3))) (aNil))))))) ((fun k ρ T => k.nx ρ T))) (sRet (dCallX 4 se_on_one_round r (aCons (dOp (oF fIx) (dVar 1) (dC (.int 0))) (aCons (dOp (oF fIx) (dVar 1) (dC (.int 1))) (aCons (dOp (oF fIx) (dVar 1) (dC (.int 2))) (aCons (dOp (oF fIx) (dVar 1) (dC (.int 3))) (aNil))))))))))))))))
def se__law_run : SemX := semX ["_law_way", "_law_some"] b__law_run
theorem ex__law_run (r : RK) (a0 a1 : SV) (T : Tk) (k : KD) : se__law_run r [a0, a1] T k = b__law_run (fun e _ T => r e T) { nx := fun _ T => k .non T, rt := k, bk := fun _ _ => False, ct := fun _ _ => False } [some a0, some a1] T := rfl
abbrev st__law_met : Stmt := topS 103
theorem sc__law_met : FnScope ["_law_way", "_law_some", "e", "_law_sorts"] ["_law_way", "_law_some"] (defScope st__law_met) := ⟨rfl, rfl, rfl, by decide +kernel, rfl, by decide +kernel, by decide +kernel⟩
def b__law_met : dS := sSeq (sTryA mt_ArmError 2 (fun r => sExpr (dCallX 2 se__law_run r (aCons (dVar 0) (aCons (dVar 1) (aNil))))) (fun e a d => sSeq (sAsg (dLst (aCons (dIsE 2 a d (is_InvalidFlag e.nm)) (aCons (dIsE 2 a d (is_InvalidComplex e.nm)) (aCons (dIsE 2 a d (is_InvalidMap e.nm)) (aCons (dIsE 2 a d (is_InvalidPlace e.nm)) (aCons (dIsE 2 a d (is_InvalidRound e.nm)) (aCons (dIsE 2 a d (is_Same e.nm)) (aCons (dIsE 2 a d (is_InvalidTriple e.nm)) (aCons (dIsE 2 a d (is_NoMap e.nm)) (aCons (dIsE 2 a d (is_InvalidRow e.nm)) (aCons (dIsE 2 a d (is_InvalidNumbers e.nm)) (aNil)))))))))))) (gN 3)) (sSeq (sIf (dOr (dTst (dOp (oF fNe) (dMt (oF fCntT) (dVar 3) (dC (.bl true))) (dC (.int 1)))) (dOr (dNot (dTst (dIsE 2 a d (is_ValueError e.nm)))) (dOr (dTst (dOp (oF fIx) (dVar 3) (dC (.int 8)))) (dTst (dOp (oF fIx) (dVar 3) (dC (.int 9))))))) (sRet (dLst (aCons (dC (.str "odd")) (aCons (dC .non) (aNil))))) ((fun k ρ T => k.nx ρ T))) (sSeq (sIf (dTst (dOp (oF fIx) (dVar 3) (dC (.int 6)))) (sRet (dLst (aCons (dC (.str "triple")) (aCons (dGivE "index" 2 a d (gv_index e.nm)) (aNil))))) ((fun k ρ T => k.nx ρ T))) (sSeq (sIf (dTst (dOp (oF fIx) (dVar 3) (dC (.int 7)))) (sRet (dLst (aCons (dC (.str "none")) (aCons (dC .non) (aNil))))) ((fun k ρ T => k.nx ρ T))) (sRet (dLst (aCons (dOp (oF fIx) (dTup (aCons (dC (.str "flag")) (aCons (dC (.str "complex")) (aCons (dC (.str "map")) (aCons (dC (.str "place")) (aCons (dC (.str "round")) (aCons (dC (.str "same")) (aNil)))))))) (dMt (oF fIdxT) (dVar 3) (dC (.bl true)))) (aCons (dGivE "given" 2 a d (gv_given e.nm)) (aNil)))))))))) (sRet (dLst (aCons (dC (.str "let")) (aCons (dC .non) (aNil)))))
def sm__law_met : Sem := semOf ["_law_way", "_law_some", "e", "_law_sorts"] b__law_met
theorem e__law_met (a0 a1 : SV) (T : Tk) (k : KD) : sm__law_met [a0, a1] T k = b__law_met { nx := fun _ T => k .non T, rt := k, bk := fun _ _ => False, ct := fun _ _ => False } [some a0, some a1, none, none] T := rfl
abbrev st__law_odd : Stmt := topS 104
theorem sc__law_odd : FnScope ["_law_tank_here"] ["_law_tank_here"] (defScope st__law_odd) := ⟨rfl, rfl, rfl, by decide +kernel, rfl, by decide +kernel, by decide +kernel⟩
def b__law_odd : dS := sRet (dCall 2 sm__law_pick (aTank 0 (aCons (dTup (aCons (dC .non) (aCons (dC (.str "0")) (aCons (dC (.int 2)) (aCons (dNeg (dC (.int 1))) (aCons (dC (.bl true)) (aCons (dC (.bl false)) (aCons (dTup (aNil)) (aCons (dTup (aCons (dC (.int 1)) (aNil))) (aCons (dTup (aCons (dC (.int 1)) (aCons (dC .non) (aNil)))) (aCons (dLst (aCons (dC (.int 1)) (aCons (dC (.int 0)) (aNil)))) (aCons (dTup (aCons (dC (.bl true)) (aCons (dC (.int 1)) (aNil)))) (aCons (dTup (aCons (dC (.int 2)) (aCons (dC (.int 0)) (aCons (dC (.int 0)) (aNil))))) (aCons (dTup (aCons (dC (.int 0)) (aCons (dC (.int 0)) (aCons (dC (.int 0)) (aNil))))) (aCons (dTup (aCons (dC (.int 1)) (aCons (dC (.int 2)) (aCons (dC (.int 0)) (aNil))))) (aCons (dTup (aCons (dC (.int 2)) (aCons (dC (.int 0)) (aCons (dC (.int 0)) (aCons (dNeg (dC (.int 2))) (aNil)))))) (aCons (dTup (aCons (dNeg (dC (.int 1))) (aCons (dC (.int 0)) (aCons (dC (.int 0)) (aCons (dC (.int 1)) (aNil)))))) (aCons (dTup (aCons (dC (.int 0)) (aCons (dC (.int 0)) (aCons (dC (.int 0)) (aCons (dC (.int 1)) (aNil)))))) (aCons (dTup (aCons (dC (.int 0)) (aCons (dTup (aCons (dC (.int 2)) (aCons (dC (.int 0)) (aNil)))) (aCons (dTup (aCons (dC (.int 0)) (aCons (dC (.int 0)) (aNil)))) (aCons (dTup (aCons (dC (.int 0)) (aCons (dC (.int 0)) (aNil)))) (aCons (dTup (aCons (dC (.int 2)) (aCons (dC (.int 0)) (aNil)))) (aNil))))))) (aCons (dDct0) (aCons (dTup (aCons (dC (.int 1)) (aCons (dC (.int 2)) (aCons (dC (.int 3)) (aCons (dC (.int 4)) (aCons (dC (.int 5)) (aNil))))))) (aCons (dTup (aCons (dC (.int 0)) (aCons (dTup (aCons (dC (.int 0)) (aCons (dC (.int 1)) (aNil)))) (aCons (dTup (aCons (dC (.int 0)) (aCons (dC (.int 0)) (aNil)))) (aCons (dTup (aCons (dC (.int 0)) (aCons (dC (.int 0)) (aNil)))) (aCons (dTup (aCons (dC (.int 1)) (aCons (dC (.int 0)) (aNil)))) (aNil))))))) (aCons (dTup (aCons (dC (.int 2)) (aCons (dTup (aCons (dC (.int 1)) (aCons (dC (.int 0)) (aNil)))) (aCons (dTup (aCons (dC (.int 0)) (aCons (dC (.int 0)) (aNil)))) (aCons (dTup (aCons (dC (.int 0)) (aCons (dC (.int 0)) (aNil)))) (aCons (dTup (aCons (dC (.int 1)) (aCons (dC (.int 0)) (aNil)))) (aNil))))))) (aCons (dLst (aCons (dC (.int 0)) (aCons (dC (.int 0)) (aCons (dC (.int 1)) (aNil))))) (aNil))))))))))))))))))))))))) (aNil))))
def sm__law_odd : Sem := semOf ["_law_tank_here"] b__law_odd
theorem e__law_odd (a0 : SV) (T : Tk) (k : KD) : sm__law_odd [a0] T k = b__law_odd { nx := fun _ T => k .non T, rt := k, bk := fun _ _ => False, ct := fun _ _ => False } [some a0] T := rfl
abbrev st__law_wrong_triple : Stmt := topS 105
theorem sc__law_wrong_triple : FnScope ["_law_tank_here", "_law_row_here", "_law_at", "_law_odd_here", "_law_way"] ["_law_tank_here"] (defScope st__law_wrong_triple) := ⟨rfl, rfl, rfl, by decide +kernel, rfl, by decide +kernel, by decide +kernel⟩
def b__law_wrong_triple : dS := sSeq (sPar3 1 2 3 (aCons (dBlt (oG fTuple) (aCons (dCall 2 sm__law_unlike (aTank 0 (aCons (dC (.int 3)) (aNil)))) (aNil))) (aCons (dCall 2 sm__law_draw (aTank 0 (aCons (dC (.int 3)) (aNil)))) (aCons (dCall 1 sm__law_odd (aTank 0 (aNil))) (aNil))))) (sSeq (sAsg (dCall 2 sm__law_draw (aTank 0 (aCons (dC (.int 6)) (aNil)))) (gN 4)) (sSeq (sIf (dTst (dOp (oF fEq) (dVar 4) (dC (.int 0)))) (sRet (dTup (aCons (dCall 2 sm__law_pick (aTank 0 (aCons (dTup (aCons (dBlt (oG fList) (aCons (dVar 1) (aNil))) (aCons (dC .non) (aCons (dC (.int 3)) (aCons (dC (.str "row")) (aCons (dDct0) (aNil))))))) (aNil)))) (aCons (dC .non) (aNil))))) ((fun k ρ T => k.nx ρ T))) (sSeq (sIf (dTst (dOp (oF fEq) (dVar 4) (dC (.int 1)))) (sRet (dTup (aCons (dOp (oF fAdd) (dVar 1) (dTup (aCons (dCall 2 sm__law_pick (aTank 0 (aCons (dTup (aCons (dVar 3) (aCons (dOp (oF fIx) (dVar 1) (dC (.int 0))) (aCons (dTup (aCons (dC (.int 99)) (aCons (dC (.int 0)) (aCons (dC (.int 1)) (aNil))))) (aNil))))) (aNil)))) (aNil)))) (aCons (dC (.int 3)) (aNil))))) ((fun k ρ T => k.nx ρ T))) (sSeq (sIf (dTst (dOp (oF fEq) (dVar 4) (dC (.int 2)))) (sRet (dTup (aCons (dSlQ (dVar 1) (fun _ T k => k none T) (pSome (dVar 2))) (aCons (dVar 2) (aNil))))) ((fun k ρ T => k.nx ρ T))) (sSeq (sIf (dAnd (dTst (dOp (oF fEq) (dVar 4) (dC (.int 3)))) (dTst (dOp (oF fGt) (dVar 2) (dC (.int 0))))) (sRet (dTup (aCons (dOp (oF fAdd) (dOp (oF fAdd) (dSlQ (dVar 1) (fun _ T k => k none T) (pSome (dVar 2))) (dTup (aCons (dOp (oF fIx) (dVar 1) (dCall 2 sm__law_draw (aTank 0 (aCons (dVar 2) (aNil))))) (aNil)))) (dSlQ (dVar 1) (pSome (dOp (oF fAdd) (dVar 2) (dC (.int 1)))) (fun _ T k => k none T))) (aCons (dVar 2) (aNil))))) ((fun k ρ T => k.nx ρ T))) (sRet (dTup (aCons (dOp (oF fAdd) (dOp (oF fAdd) (dSlQ (dVar 1) (fun _ T k => k none T) (pSome (dVar 2))) (dTup (aCons (dVar 3) (aNil)))) (dCall 2 sm__law_pick (aTank 0 (aCons (dTup (aCons (dSlQ (dVar 1) (pSome (dOp (oF fAdd) (dVar 2) (dC (.int 1)))) (fun _ T k => k none T)) (aCons (dTup (aNil)) (aCons (dTup (aCons (dVar 3) (aNil))) (aNil))))) (aNil))))) (aCons (dVar 2) (aNil))))))))))
def sm__law_wrong_triple : Sem := semOf ["_law_tank_here", "_law_row_here", "_law_at", "_law_odd_here", "_law_way"] b__law_wrong_triple
theorem e__law_wrong_triple (a0 : SV) (T : Tk) (k : KD) : sm__law_wrong_triple [a0] T k = b__law_wrong_triple { nx := fun _ T => k .non T, rt := k, bk := fun _ _ => False, ct := fun _ _ => False } [some a0, none, none, none, none] T := rfl
abbrev st__law_map_cases : Stmt := topS 106
theorem sc__law_map_cases : FnScope ["_law_tank_here", "_law_a", "_law_b", "_law_c", "_law_d", "_law_flag", "_law_odd_here", "_law_other", "_law_chart", "_law_place", "_law_circle", "_law_bad", "_law_found", "_law_way", "_law_word", "_law_right_here"] ["_law_tank_here"] (defScope st__law_map_cases) := ⟨rfl, rfl, rfl, by decide +kernel, rfl, by decide +kernel, by decide +kernel⟩
def b__law_map_cases : dS := sSeq (sAsg (dCall 1 sm__law_four (aTank 0 (aNil))) (gTL 4 (gsCons (gN 1) (gsCons (gN 2) (gsCons (gN 3) (gsCons (gN 4) (gsNil))))))) (sSeq (sAsg (dTup (aCons (dCall 2 sm__law_draw (aTank 0 (aCons (dC (.int 2)) (aNil)))) (aCons (dCall 1 sm__law_odd (aTank 0 (aNil))) (aCons (dCall 1 sm__law_odd (aTank 0 (aNil))) (aCons (dCall 1 sm__law_drawn_map (aTank 0 (aNil))) (aNil)))))) (gTL 4 (gsCons (gN 5) (gsCons (gN 6) (gsCons (gN 7) (gsCons (gN 8) (gsNil))))))) (sSeq (sPar3 9 10 11 (aCons (dCall 1 sm__law_any_place (aTank 0 (aNil))) (aCons (dCall 1 sm__law_form (aCons (dCall 1 sm__law_row (aTank 0 (aNil))) (aNil))) (aCons (dCall 2 sm__law_pick (aTank 0 (aCons (dTup (aCons (dC (.bl true)) (aCons (dC (.bl false)) (aCons (dC (.int 2)) (aCons (dNeg (dC (.int 1))) (aCons (dC .non) (aCons (dC (.str "1")) (aCons (dTup (aCons (dC (.int 0)) (aNil))) (aNil))))))))) (aNil)))) (aNil))))) (sSeq (sAsg (dLst (aCons (dTup (aCons (dC (.str "map")) (aCons (dTup (aCons (dVar 5) (aCons (dVar 1) (aCons (dVar 2) (aCons (dVar 1) (aCons (dVar 2) (aNil))))))) (aCons (dC (.str "none")) (aCons (dC .non) (aNil)))))) (aCons (dTup (aCons (dC (.str "map")) (aCons (dTup (aCons (dVar 11) (aCons (dVar 6) (aCons (dVar 2) (aCons (dVar 3) (aCons (dVar 4) (aNil))))))) (aCons (dC (.str "flag")) (aCons (dVar 11) (aNil)))))) (aNil)))) (gN 12)) (sSeq (sAsg (dOp (oF fAdd) (dVar 12) (dLst (aCons (dTup (aCons (dC (.str "map")) (aCons (dTup (aCons (dVar 5) (aCons (dVar 6) (aCons (dVar 7) (aCons (dVar 3) (aCons (dVar 4) (aNil))))))) (aCons (dC (.str "complex")) (aCons (dVar 6) (aNil)))))) (aCons (dTup (aCons (dC (.str "map")) (aCons (dTup (aCons (dVar 5) (aCons (dVar 1) (aCons (dVar 6) (aCons (dVar 7) (aCons (dVar 4) (aNil))))))) (aCons (dC (.str "complex")) (aCons (dVar 6) (aNil)))))) (aNil))))) (gN 12)) (sSeq (sAsg (dOp (oF fAdd) (dVar 12) (dLst (aCons (dTup (aCons (dC (.str "map")) (aCons (dTup (aCons (dVar 5) (aCons (dVar 1) (aCons (dVar 2) (aCons (dVar 6) (aCons (dVar 7) (aNil))))))) (aCons (dC (.str "complex")) (aCons (dVar 6) (aNil)))))) (aCons (dTup (aCons (dC (.str "map")) (aCons (dTup (aCons (dVar 5) (aCons (dVar 1) (aCons (dVar 2) (aCons (dVar 1) (aCons (dVar 6) (aNil))))))) (aCons (dC (.str "complex")) (aCons (dVar 6) (aNil)))))) (aNil))))) (gN 12)) (sSeq (sAsg (dOp (oF fAdd) (dVar 12) (dLst (aCons (dTup (aCons (dC (.str "map")) (aCons (dTup (aCons (dVar 11) (aCons (dVar 1) (aCons (dVar 2) (aCons (dVar 1) (aCons (dVar 2) (aNil))))))) (aCons (dC (.str "flag")) (aCons (dVar 11) (aNil)))))) (aCons (dTup (aCons (dC (.str "map")) (aCons (dTup (aCons (dVar 5) (aCons (dVar 1) (aCons (dVar 2) (aCons (dVar 3) (aCons (dVar 4) (aNil))))))) (aCons (dC (.str "let")) (aCons (dC .non) (aNil)))))) (aNil))))) (gN 12)) (sSeq (sForI (iQ (dTup (aCons (dC (.str "led")) (aCons (dC (.str "round")) (aCons (dC (.str "straight")) (aCons (dC (.str "after")) (aNil))))))) (gN 13) (sSeq (sAsg (dOp (oF fIx) (dTup (aCons (dC (.str "place")) (aCons (dC (.str "round")) (aCons (dC (.str "round")) (aCons (dC (.str "map")) (aNil)))))) (dTupIx (aCons (dC (.str "led")) (aCons (dC (.str "round")) (aCons (dC (.str "straight")) (aCons (dC (.str "after")) (aNil))))) (dVar 13))) (gN 14)) (sSeq (sAsg (dIf (dTst (dOp (oF fEq) (dVar 13) (dC (.str "led")))) (dVar 9) (dIf (dTst (dOp (oF fEq) (dVar 13) (dC (.str "after")))) (dVar 8) (dVar 10))) (gN 15)) (sAsg (dOp (oF fAdd) (dVar 12) (dLst (aCons (dTup (aCons (dVar 13) (aCons (dTup (aCons (dVar 6) (aCons (dVar 7) (aNil)))) (aCons (dC (.str "map")) (aCons (dVar 6) (aNil)))))) (aCons (dTup (aCons (dVar 13) (aCons (dTup (aCons (dVar 8) (aCons (dVar 6) (aNil)))) (aCons (dVar 14) (aCons (dVar 6) (aNil)))))) (aCons (dTup (aCons (dVar 13) (aCons (dTup (aCons (dVar 8) (aCons (dVar 15) (aNil)))) (aCons (dC (.str "let")) (aCons (dC .non) (aNil)))))) (aNil)))))) (gN 12))))) (sSeq (sAsg (dOp (oF fAdd) (dVar 12) (dLst (aCons (dTup (aCons (dC (.str "back")) (aCons (dTup (aCons (dVar 6) (aNil))) (aCons (dC (.str "map")) (aCons (dVar 6) (aNil)))))) (aCons (dTup (aCons (dC (.str "back")) (aCons (dTup (aCons (dVar 8) (aNil))) (aCons (dC (.str "let")) (aCons (dC .non) (aNil)))))) (aNil))))) (gN 12)) (sRet (dOp (oF fAdd) (dVar 12) (dLst (aCons (dTup (aCons (dC (.str "mirror")) (aCons (dTup (aCons (dVar 6) (aNil))) (aCons (dC (.str "round")) (aCons (dVar 6) (aNil)))))) (aCons (dTup (aCons (dC (.str "mirror")) (aCons (dTup (aCons (dVar 10) (aNil))) (aCons (dC (.str "let")) (aCons (dC .non) (aNil)))))) (aNil))))))))))))))
def sm__law_map_cases : Sem := semOf ["_law_tank_here", "_law_a", "_law_b", "_law_c", "_law_d", "_law_flag", "_law_odd_here", "_law_other", "_law_chart", "_law_place", "_law_circle", "_law_bad", "_law_found", "_law_way", "_law_word", "_law_right_here"] b__law_map_cases
theorem e__law_map_cases (a0 : SV) (T : Tk) (k : KD) : sm__law_map_cases [a0] T k = b__law_map_cases { nx := fun _ T => k .non T, rt := k, bk := fun _ _ => False, ct := fun _ _ => False } [some a0, none, none, none, none, none, none, none, none, none, none, none, none, none, none, none] T := rfl
abbrev st__law_triple_cases : Stmt := topS 107
theorem sc__law_triple_cases : FnScope ["_law_tank_here", "_law_row_here", "_law_goals", "_law_found", "_law_wrong", "_law_at", "_law_further", "_law_spot", "_law_way", "_law_one", "_law_two", "_law_three", "_law_four_here", "_law_odd_here", "_law_other"] ["_law_tank_here"] (defScope st__law_triple_cases) := ⟨rfl, rfl, rfl, by decide +kernel, rfl, by decide +kernel, by decide +kernel⟩
def b__law_triple_cases : dS := sSeq (sPar3 1 2 3 (aCons (dBlt (oG fTuple) (aCons (dCall 2 sm__law_unlike (aTank 0 (aCons (dC (.int 3)) (aNil)))) (aNil))) (aCons (dBlt (oG fTuple) (aCons (dCall 2 sm__law_unlike (aTank 0 (aCons (dC (.int 3)) (aNil)))) (aNil))) (aCons (dLst (aNil)) (aNil))))) (sSeq (sAsg (dCall 1 sm__law_wrong_triple (aTank 0 (aNil))) (gTL 2 (gsCons (gN 4) (gsCons (gN 5) (gsNil))))) (sSeq (sAsg (dCall 1 sm__law_wrong_triple (aTank 0 (aNil))) (gTL 2 (gsCons (gN 6) (gsCons (gN 7) (gsNil))))) (sSeq (sForI (iQ (dTup (aCons (dC (.str "plain")) (aCons (dC (.str "mirrored")) (aNil))))) (gN 8) (sSeq (sAsg (dOp (oF fAdd) (dVar 3) (dLst (aCons (dTup (aCons (dVar 8) (aCons (dTup (aCons (dVar 4) (aCons (dVar 6) (aNil)))) (aCons (dC (.str "triple")) (aCons (dVar 5) (aNil)))))) (aCons (dTup (aCons (dVar 8) (aCons (dTup (aCons (dVar 1) (aCons (dVar 6) (aNil)))) (aCons (dC (.str "triple")) (aCons (dVar 7) (aNil)))))) (aNil))))) (gN 3)) (sAsg (dOp (oF fAdd) (dVar 3) (dLst (aCons (dTup (aCons (dVar 8) (aCons (dTup (aCons (dVar 1) (aCons (dVar 2) (aNil)))) (aCons (dC (.str "let")) (aCons (dC .non) (aNil)))))) (aNil)))) (gN 3)))) (sSeq (sAsg (dCall 2 sm__law_unlike (aTank 0 (aCons (dC (.int 4)) (aNil)))) (gTL 4 (gsCons (gN 9) (gsCons (gN 10) (gsCons (gN 11) (gsCons (gN 12) (gsNil))))))) (sSeq (sPar 13 14 (aCons (dCall 1 sm__law_odd (aTank 0 (aNil))) (aCons (dCall 1 sm__law_odd (aTank 0 (aNil))) (aNil)))) (sSeq (sForI (iQ (dTup (aCons (dC (.str "ratio")) (aCons (dC (.str "four")) (aNil))))) (gN 8) (sSeq (sAsg (dOp (oF fAdd) (dVar 3) (dLst (aCons (dTup (aCons (dVar 8) (aCons (dTup (aCons (dVar 13) (aCons (dVar 14) (aCons (dVar 11) (aCons (dVar 12) (aNil)))))) (aCons (dC (.str "place")) (aCons (dVar 13) (aNil)))))) (aCons (dTup (aCons (dVar 8) (aCons (dTup (aCons (dVar 9) (aCons (dVar 13) (aCons (dVar 14) (aCons (dVar 12) (aNil)))))) (aCons (dC (.str "place")) (aCons (dVar 13) (aNil)))))) (aNil))))) (gN 3)) (sSeq (sAsg (dOp (oF fAdd) (dVar 3) (dLst (aCons (dTup (aCons (dVar 8) (aCons (dTup (aCons (dVar 9) (aCons (dVar 9) (aCons (dVar 13) (aCons (dVar 14) (aNil)))))) (aCons (dC (.str "place")) (aCons (dVar 13) (aNil)))))) (aCons (dTup (aCons (dVar 8) (aCons (dTup (aCons (dVar 9) (aCons (dVar 9) (aCons (dVar 9) (aCons (dVar 13) (aNil)))))) (aCons (dC (.str "place")) (aCons (dVar 13) (aNil)))))) (aNil))))) (gN 3)) (sSeq (sAsg (dOp (oF fAdd) (dVar 3) (dLst (aCons (dTup (aCons (dVar 8) (aCons (dTup (aCons (dVar 9) (aCons (dVar 10) (aCons (dVar 9) (aCons (dVar 10) (aNil)))))) (aCons (dC (.str "same")) (aCons (dVar 9) (aNil)))))) (aCons (dTup (aCons (dVar 8) (aCons (dTup (aCons (dVar 9) (aCons (dVar 10) (aCons (dVar 11) (aCons (dVar 10) (aNil)))))) (aCons (dC (.str "same")) (aCons (dVar 10) (aNil)))))) (aNil))))) (gN 3)) (sAsg (dOp (oF fAdd) (dVar 3) (dLst (aCons (dTup (aCons (dVar 8) (aCons (dTup (aCons (dVar 9) (aCons (dVar 9) (aCons (dVar 10) (aCons (dVar 10) (aNil)))))) (aCons (dC (.str "same")) (aCons (dVar 9) (aNil)))))) (aCons (dTup (aCons (dVar 8) (aCons (dTup (aCons (dVar 9) (aCons (dVar 10) (aCons (dVar 11) (aCons (dVar 12) (aNil)))))) (aCons (dC (.str "let")) (aCons (dC .non) (aNil)))))) (aNil))))) (gN 3)))))) (sRet (dVar 3))))))))
def sm__law_triple_cases : Sem := semOf ["_law_tank_here", "_law_row_here", "_law_goals", "_law_found", "_law_wrong", "_law_at", "_law_further", "_law_spot", "_law_way", "_law_one", "_law_two", "_law_three", "_law_four_here", "_law_odd_here", "_law_other"] b__law_triple_cases
theorem e__law_triple_cases (a0 : SV) (T : Tk) (k : KD) : sm__law_triple_cases [a0] T k = b__law_triple_cases { nx := fun _ T => k .non T, rt := k, bk := fun _ _ => False, ct := fun _ _ => False } [some a0, none, none, none, none, none, none, none, none, none, none, none, none, none, none] T := rfl
abbrev st__law_right : Stmt := topS 108
theorem sc__law_right : FnScope ["_law_tank_here", "_law_way", "_law_some", "_law_word", "_law_kept"] ["_law_tank_here"] (defScope st__law_right) := ⟨rfl, rfl, rfl, by decide +kernel, rfl, by decide +kernel, by decide +kernel⟩
def b__law_right : dS := sSeq (sForI (iQ (dOp (oF fAdd) (dCall 1 sm__law_map_cases (aTank 0 (aNil))) (dCall 1 sm__law_triple_cases (aTank 0 (aNil))))) (gTL 4 (gsCons (gN 1) (gsCons (gN 2) (gsCons (gN 3) (gsCons (gN 4) (gsNil)))))) (sIf (dTst (dOp (oF fNe) (dBlt (oG fReprE) (aCons (dCall 2 sm__law_met (aCons (dVar 1) (aCons (dVar 2) (aNil)))) (aNil))) (dBlt (oG fReprE) (aCons (dLst (aCons (dVar 3) (aCons (dVar 4) (aNil)))) (aNil))))) (sRet (dC (.bl false))) ((fun k ρ T => k.nx ρ T)))) (sRet (dC (.bl true)))
def sm__law_right : Sem := semOf ["_law_tank_here", "_law_way", "_law_some", "_law_word", "_law_kept"] b__law_right
theorem e__law_right (a0 : SV) (T : Tk) (k : KD) : sm__law_right [a0] T k = b__law_right { nx := fun _ T => k .non T, rt := k, bk := fun _ _ => False, ct := fun _ _ => False } [some a0, none, none, none, none] T := rfl
abbrev st_law : Stmt := topS 109
theorem sc_law : FnScope ["_law_script", "_law_spot"] ["_law_script"] (defScope st_law) := ⟨rfl, rfl, rfl, by decide +kernel, rfl, by decide +kernel, by decide +kernel⟩
def b_law : dS := sSeq (sForI (iR1 (aCons (dCall 1 sm__law_rounds (aCons (dVar 0) (aNil))) (aNil))) (gN 1) (sIf (dNot (dTst (dCallT 2 sm__law_right sm__law_tank (aCons (dVar 0) (aCons (dVar 1) (aNil)))))) (sRet (dC (.bl false))) ((fun k ρ T => k.nx ρ T)))) (sRet (dC (.bl true)))
def sm_law : Sem := semOf ["_law_script", "_law_spot"] b_law
theorem e_law (a0 : SV) (T : Tk) (k : KD) : sm_law [a0] T k = b_law { nx := fun _ T => k .non T, rt := k, bk := fun _ _ => False, ct := fun _ _ => False } [some a0, none] T := rfl
def hdD0 : List (Str × Stmt) := [("is_whole", st_is_whole), ("are_wholes", st_are_wholes), ("divisor_of", st_divisor_of), ("lowest", st_lowest), ("is_lowest", st_is_lowest), ("is_led_up", st_is_led_up), ("first_above", st_first_above), ("is_complex", st_is_complex), ("check_complex", st_check_complex), ("plus", st_plus), ("minus", st_minus), ("times", st_times), ("scaled", st_scaled), ("turned_over", st_turned_over), ("square_size", st_square_size), ("unit_for", st_unit_for), ("nearest", st_nearest), ("divisor_of_two", st_divisor_of_two), ("divisor_of_all", st_divisor_of_all), ("divided", st_divided), ("is_place", st_is_place), ("check_place", st_check_place), ("quotient_place", st_quotient_place), ("bend", st_bend), ("is_row", st_is_row)]
def hdD1 : List (Str × Stmt) := [("is_round", st_is_round), ("check_round", st_check_round), ("check_apart", st_check_apart), ("determinant", st_determinant), ("form_of", st_form_of), ("is_flag", st_is_flag), ("is_map", st_is_map), ("check_map", st_check_map), ("map_of", st_map_of), ("led_by", st_led_by), ("inner", st_inner), ("led_row", st_led_row), ("joined", st_joined), ("way_back", st_way_back), ("mirror_of", st_mirror_of), ("led_place", st_led_place), ("led_round", st_led_round), ("after", st_after), ("back", st_back), ("mirror_in", st_mirror_in), ("is_straight", st_is_straight), ("check_triple", st_check_triple), ("apart", st_apart), ("chart_to_three", st_chart_to_three), ("plain_through", st_plain_through)]
def hdD2 : List (Str × Stmt) := [("mirrored_through", st_mirrored_through), ("four_ratio", st_four_ratio), ("ratio_of_four", st_ratio_of_four), ("on_one_round", st_on_one_round), ("_law_tank", st__law_tank), ("_law_draw", st__law_draw), ("_law_pick", st__law_pick), ("_law_rounds", st__law_rounds), ("_law_number", st__law_number), ("_law_small", st__law_small), ("_law_least", st__law_least), ("_law_less", st__law_less), ("_law_times", st__law_times), ("_law_star", st__law_star), ("_law_size", st__law_size), ("_law_quarter", st__law_quarter), ("_law_over", st__law_over), ("_law_common", st__law_common), ("_law_form", st__law_form), ("_law_near", st__law_near), ("_law_row", st__law_row), ("_law_any_place", st__law_any_place), ("_law_unlike", st__law_unlike), ("_law_little", st__law_little), ("_law_map", st__law_map)]
def hdD3 : List (Str × Stmt) := [("_law_det", st__law_det), ("_law_four", st__law_four), ("_law_drawn_map", st__law_drawn_map), ("_law_run", st__law_run), ("_law_met", st__law_met), ("_law_odd", st__law_odd), ("_law_wrong_triple", st__law_wrong_triple), ("_law_map_cases", st__law_map_cases), ("_law_triple_cases", st__law_triple_cases), ("_law_right", st__law_right), ("law", st_law)]
def hdDefs : List (Str × Stmt) := hdD0 ++ hdD1 ++ hdD2 ++ hdD3
def hdFree : List Str := ["ValueError", "abs", "all", "bool", "divmod", "enumerate", "int", "isinstance", "len", "list", "max", "min", "range", "repr", "tuple"]
def hdBlt : List (Str × String) := [("gcd", "math.gcd")]
def hdCons : List (Str × D) := [("UNITS", k_UNITS), ("ZERO", k_ZERO), ("FAR", k_FAR), ("MANY", k_MANY)]
def hdCls : List Str := ["NoMap", "ArmError"]
def hdPrs : List (Str × Str) := [("ArmError", "ArmError"), ("InvalidComplex", "ArmError"), ("InvalidNumbers", "ArmError"), ("InvalidPlace", "ArmError"), ("InvalidRow", "ArmError"), ("InvalidRound", "ArmError"), ("InvalidMap", "ArmError"), ("InvalidFlag", "ArmError"), ("Same", "ArmError"), ("InvalidTriple", "ArmError"), ("NoMap", "ArmError")]
def hdIni : List (Str × Str × Str × Stmt) := [("InvalidComplex", "given", "InvalidComplex.__init__", st_InvalidComplex__init), ("InvalidPlace", "given", "InvalidPlace.__init__", st_InvalidPlace__init), ("InvalidRound", "given", "InvalidRound.__init__", st_InvalidRound__init), ("Same", "given", "Same.__init__", st_Same__init), ("InvalidMap", "given", "InvalidMap.__init__", st_InvalidMap__init), ("InvalidFlag", "given", "InvalidFlag.__init__", st_InvalidFlag__init), ("InvalidTriple", "index", "InvalidTriple.__init__", st_InvalidTriple__init)]
def hdExs : List Str := ["NoMap", "ArmError", "InvalidComplex", "InvalidPlace", "InvalidRound", "Same", "InvalidMap", "InvalidFlag", "InvalidTriple", "InvalidNumbers", "InvalidRow"]
def hdKis : List (Str × Str × Bool) := [(("NoMap" : Str), ("InvalidNumbers" : Str), false), (("ArmError" : Str), ("InvalidNumbers" : Str), false), (("InvalidComplex" : Str), ("InvalidNumbers" : Str), false), (("InvalidPlace" : Str), ("InvalidNumbers" : Str), false), (("InvalidRound" : Str), ("InvalidNumbers" : Str), false), (("Same" : Str), ("InvalidNumbers" : Str), false), (("InvalidMap" : Str), ("InvalidNumbers" : Str), false), (("InvalidFlag" : Str), ("InvalidNumbers" : Str), false), (("InvalidTriple" : Str), ("InvalidNumbers" : Str), false), (("NoMap" : Str), ("InvalidRow" : Str), false), (("ArmError" : Str), ("InvalidRow" : Str), false), (("InvalidComplex" : Str), ("InvalidRow" : Str), false), (("InvalidPlace" : Str), ("InvalidRow" : Str), false), (("InvalidRound" : Str), ("InvalidRow" : Str), false), (("Same" : Str), ("InvalidRow" : Str), false), (("InvalidMap" : Str), ("InvalidRow" : Str), false), (("InvalidFlag" : Str), ("InvalidRow" : Str), false), (("InvalidTriple" : Str), ("InvalidRow" : Str), false), (("NoMap" : Str), ("NoMap" : Str), true), (("ArmError" : Str), ("NoMap" : Str), false), (("InvalidComplex" : Str), ("NoMap" : Str), false), (("InvalidPlace" : Str), ("NoMap" : Str), false), (("InvalidRound" : Str), ("NoMap" : Str), false), (("Same" : Str), ("NoMap" : Str), false), (("InvalidMap" : Str), ("NoMap" : Str), false), (("InvalidFlag" : Str), ("NoMap" : Str), false), (("InvalidTriple" : Str), ("NoMap" : Str), false), (("NoMap" : Str), ("InvalidTriple" : Str), false), (("ArmError" : Str), ("InvalidTriple" : Str), false), (("InvalidComplex" : Str), ("InvalidTriple" : Str), false), (("InvalidPlace" : Str), ("InvalidTriple" : Str), false), (("InvalidRound" : Str), ("InvalidTriple" : Str), false), (("Same" : Str), ("InvalidTriple" : Str), false), (("InvalidMap" : Str), ("InvalidTriple" : Str), false), (("InvalidFlag" : Str), ("InvalidTriple" : Str), false), (("InvalidTriple" : Str), ("InvalidTriple" : Str), true), (("NoMap" : Str), ("Same" : Str), false), (("ArmError" : Str), ("Same" : Str), false), (("InvalidComplex" : Str), ("Same" : Str), false), (("InvalidPlace" : Str), ("Same" : Str), false), (("InvalidRound" : Str), ("Same" : Str), false), (("Same" : Str), ("Same" : Str), true), (("InvalidMap" : Str), ("Same" : Str), false), (("InvalidFlag" : Str), ("Same" : Str), false), (("InvalidTriple" : Str), ("Same" : Str), false), (("NoMap" : Str), ("InvalidRound" : Str), false), (("ArmError" : Str), ("InvalidRound" : Str), false), (("InvalidComplex" : Str), ("InvalidRound" : Str), false), (("InvalidPlace" : Str), ("InvalidRound" : Str), false), (("InvalidRound" : Str), ("InvalidRound" : Str), true), (("Same" : Str), ("InvalidRound" : Str), false), (("InvalidMap" : Str), ("InvalidRound" : Str), false), (("InvalidFlag" : Str), ("InvalidRound" : Str), false), (("InvalidTriple" : Str), ("InvalidRound" : Str), false), (("NoMap" : Str), ("InvalidPlace" : Str), false), (("ArmError" : Str), ("InvalidPlace" : Str), false), (("InvalidComplex" : Str), ("InvalidPlace" : Str), false), (("InvalidPlace" : Str), ("InvalidPlace" : Str), true), (("InvalidRound" : Str), ("InvalidPlace" : Str), false), (("Same" : Str), ("InvalidPlace" : Str), false), (("InvalidMap" : Str), ("InvalidPlace" : Str), false), (("InvalidFlag" : Str), ("InvalidPlace" : Str), false), (("InvalidTriple" : Str), ("InvalidPlace" : Str), false), (("NoMap" : Str), ("InvalidMap" : Str), false), (("ArmError" : Str), ("InvalidMap" : Str), false), (("InvalidComplex" : Str), ("InvalidMap" : Str), false), (("InvalidPlace" : Str), ("InvalidMap" : Str), false), (("InvalidRound" : Str), ("InvalidMap" : Str), false), (("Same" : Str), ("InvalidMap" : Str), false), (("InvalidMap" : Str), ("InvalidMap" : Str), true), (("InvalidFlag" : Str), ("InvalidMap" : Str), false), (("InvalidTriple" : Str), ("InvalidMap" : Str), false), (("NoMap" : Str), ("InvalidComplex" : Str), false), (("ArmError" : Str), ("InvalidComplex" : Str), false), (("InvalidComplex" : Str), ("InvalidComplex" : Str), true), (("InvalidPlace" : Str), ("InvalidComplex" : Str), false), (("InvalidRound" : Str), ("InvalidComplex" : Str), false), (("Same" : Str), ("InvalidComplex" : Str), false), (("InvalidMap" : Str), ("InvalidComplex" : Str), false), (("InvalidFlag" : Str), ("InvalidComplex" : Str), false), (("InvalidTriple" : Str), ("InvalidComplex" : Str), false), (("NoMap" : Str), ("InvalidFlag" : Str), false), (("ArmError" : Str), ("InvalidFlag" : Str), false), (("InvalidComplex" : Str), ("InvalidFlag" : Str), false), (("InvalidPlace" : Str), ("InvalidFlag" : Str), false), (("InvalidRound" : Str), ("InvalidFlag" : Str), false), (("Same" : Str), ("InvalidFlag" : Str), false), (("InvalidMap" : Str), ("InvalidFlag" : Str), false), (("InvalidFlag" : Str), ("InvalidFlag" : Str), true), (("InvalidTriple" : Str), ("InvalidFlag" : Str), false)]
def hdKib : List (Str × String × Bool) := [("NoMap", "ValueError", true), ("ArmError", "ValueError", true), ("InvalidComplex", "ValueError", true), ("InvalidPlace", "ValueError", true), ("InvalidRound", "ValueError", true), ("Same", "ValueError", true), ("InvalidMap", "ValueError", true), ("InvalidFlag", "ValueError", true), ("InvalidTriple", "ValueError", true)]
def hd : Hd := ⟨hdDefs, hdFree, hdBlt, hdCons, hdCls, hdPrs, hdIni, hdExs, hdKis, hdKib, true⟩
def hdN0 : List Str := ["ArmError", "InvalidComplex", "InvalidNumbers", "InvalidPlace", "InvalidRow", "InvalidRound", "InvalidMap", "InvalidFlag", "Same", "InvalidTriple", "NoMap", "is_whole", "are_wholes", "divisor_of", "lowest", "is_lowest", "is_led_up", "first_above", "ZERO", "UNITS", "is_complex", "check_complex", "plus", "minus", "times", "scaled", "turned_over", "square_size", "unit_for", "nearest"]
def hdN1 : List Str := ["divisor_of_two", "divisor_of_all", "divided", "FAR", "is_place", "check_place", "quotient_place", "bend", "is_row", "is_round", "check_round", "check_apart", "determinant", "form_of", "is_flag", "is_map", "check_map", "map_of", "led_by", "led_row", "inner", "joined", "way_back", "mirror_of", "led_place", "led_round", "after", "back", "mirror_in", "is_straight"]
def hdN2 : List Str := ["MANY", "check_triple", "apart", "chart_to_three", "plain_through", "mirrored_through", "four_ratio", "ratio_of_four", "on_one_round", "_law_tank", "_law_draw", "_law_pick", "_law_rounds", "_law_number", "_law_small", "_law_least", "_law_less", "_law_times", "_law_star", "_law_size", "_law_quarter", "_law_over", "_law_common", "_law_form", "_law_near", "_law_row", "_law_any_place", "_law_unlike", "_law_little", "_law_map"]
def hdN3 : List Str := ["_law_det", "_law_four", "_law_drawn_map", "_law_run", "_law_met", "_law_odd", "_law_wrong_triple", "_law_map_cases", "_law_triple_cases", "_law_right"]
def hdNames : List Str := hdN0 ++ hdN1 ++ hdN2 ++ hdN3
abbrev hdR : PySem.W.OpenRow := PySem.W.OpenLaw.row PySem.Challenge.rw_drawarms_k17_maps_and_triples_refused
abbrev hdV : Program := PySem.W.view hdR.prog [0, 109]
abbrev hdK : PySem.W.Hook := hd.hook
def hdO (s : PySem.W.SharedT) : HdA := hd.obsG (HandSHeadRun.getT s)
theorem hdO_eq (s : PySem.W.SharedT) : hdO s = hdK.obs s.abs := Hd.obs_eq (HandSHeadRun.getT_eq s)
theorem hd_run (w : World) : HandSHeadRun.RunEqI hdR hdV hdK hdO 20000 hdNames w := by
  unfold HandSHeadRun.RunEqI
  kernel_rfl
structure Tx (K : PySem.W.Frag) (mg : Str → Option Value) : Prop where
  d_is_whole : Df K mg "is_whole" st_is_whole
  d_are_wholes : Df K mg "are_wholes" st_are_wholes
  d_divisor_of : Df K mg "divisor_of" st_divisor_of
  d_lowest : Df K mg "lowest" st_lowest
  d_is_lowest : Df K mg "is_lowest" st_is_lowest
  d_is_led_up : Df K mg "is_led_up" st_is_led_up
  d_first_above : Df K mg "first_above" st_first_above
  d_is_complex : Df K mg "is_complex" st_is_complex
  d_check_complex : Df K mg "check_complex" st_check_complex
  d_plus : Df K mg "plus" st_plus
  d_minus : Df K mg "minus" st_minus
  d_times : Df K mg "times" st_times
  d_scaled : Df K mg "scaled" st_scaled
  d_turned_over : Df K mg "turned_over" st_turned_over
  d_square_size : Df K mg "square_size" st_square_size
  d_unit_for : Df K mg "unit_for" st_unit_for
  d_nearest : Df K mg "nearest" st_nearest
  d_divisor_of_two : Df K mg "divisor_of_two" st_divisor_of_two
  d_divisor_of_all : Df K mg "divisor_of_all" st_divisor_of_all
  d_divided : Df K mg "divided" st_divided
  d_is_place : Df K mg "is_place" st_is_place
  d_check_place : Df K mg "check_place" st_check_place
  d_quotient_place : Df K mg "quotient_place" st_quotient_place
  d_bend : Df K mg "bend" st_bend
  d_is_row : Df K mg "is_row" st_is_row
  d_is_round : Df K mg "is_round" st_is_round
  d_check_round : Df K mg "check_round" st_check_round
  d_check_apart : Df K mg "check_apart" st_check_apart
  d_determinant : Df K mg "determinant" st_determinant
  d_form_of : Df K mg "form_of" st_form_of
  d_is_flag : Df K mg "is_flag" st_is_flag
  d_is_map : Df K mg "is_map" st_is_map
  d_check_map : Df K mg "check_map" st_check_map
  d_map_of : Df K mg "map_of" st_map_of
  d_led_by : Df K mg "led_by" st_led_by
  d_inner : Df K mg "inner" st_inner
  d_led_row : Df K mg "led_row" st_led_row
  d_joined : Df K mg "joined" st_joined
  d_way_back : Df K mg "way_back" st_way_back
  d_mirror_of : Df K mg "mirror_of" st_mirror_of
  d_led_place : Df K mg "led_place" st_led_place
  d_led_round : Df K mg "led_round" st_led_round
  d_after : Df K mg "after" st_after
  d_back : Df K mg "back" st_back
  d_mirror_in : Df K mg "mirror_in" st_mirror_in
  d_is_straight : Df K mg "is_straight" st_is_straight
  d_check_triple : Df K mg "check_triple" st_check_triple
  d_apart : Df K mg "apart" st_apart
  d_chart_to_three : Df K mg "chart_to_three" st_chart_to_three
  d_plain_through : Df K mg "plain_through" st_plain_through
  d_mirrored_through : Df K mg "mirrored_through" st_mirrored_through
  d_four_ratio : Df K mg "four_ratio" st_four_ratio
  d_ratio_of_four : Df K mg "ratio_of_four" st_ratio_of_four
  d_on_one_round : Df K mg "on_one_round" st_on_one_round
  d__law_tank : Df K mg "_law_tank" st__law_tank
  d__law_draw : Df K mg "_law_draw" st__law_draw
  d__law_pick : Df K mg "_law_pick" st__law_pick
  d__law_rounds : Df K mg "_law_rounds" st__law_rounds
  d__law_number : Df K mg "_law_number" st__law_number
  d__law_small : Df K mg "_law_small" st__law_small
  d__law_least : Df K mg "_law_least" st__law_least
  d__law_less : Df K mg "_law_less" st__law_less
  d__law_times : Df K mg "_law_times" st__law_times
  d__law_star : Df K mg "_law_star" st__law_star
  d__law_size : Df K mg "_law_size" st__law_size
  d__law_quarter : Df K mg "_law_quarter" st__law_quarter
  d__law_over : Df K mg "_law_over" st__law_over
  d__law_common : Df K mg "_law_common" st__law_common
  d__law_form : Df K mg "_law_form" st__law_form
  d__law_near : Df K mg "_law_near" st__law_near
  d__law_row : Df K mg "_law_row" st__law_row
  d__law_any_place : Df K mg "_law_any_place" st__law_any_place
  d__law_unlike : Df K mg "_law_unlike" st__law_unlike
  d__law_little : Df K mg "_law_little" st__law_little
  d__law_map : Df K mg "_law_map" st__law_map
  d__law_det : Df K mg "_law_det" st__law_det
  d__law_four : Df K mg "_law_four" st__law_four
  d__law_drawn_map : Df K mg "_law_drawn_map" st__law_drawn_map
  d__law_run : Df K mg "_law_run" st__law_run
  d__law_met : Df K mg "_law_met" st__law_met
  d__law_odd : Df K mg "_law_odd" st__law_odd
  d__law_wrong_triple : Df K mg "_law_wrong_triple" st__law_wrong_triple
  d__law_map_cases : Df K mg "_law_map_cases" st__law_map_cases
  d__law_triple_cases : Df K mg "_law_triple_cases" st__law_triple_cases
  d__law_right : Df K mg "_law_right" st__law_right
  d_law : Df K mg "law" st_law
  z_ValueError : mg "ValueError" = none
  z_abs : mg "abs" = none
  z_all : mg "all" = none
  z_bool : mg "bool" = none
  z_divmod : mg "divmod" = none
  z_enumerate : mg "enumerate" = none
  z_int : mg "int" = none
  z_isinstance : mg "isinstance" = none
  z_len : mg "len" = none
  z_list : mg "list" = none
  z_max : mg "max" = none
  z_min : mg "min" = none
  z_range : mg "range" = none
  z_repr : mg "repr" = none
  z_tuple : mg "tuple" = none
  b_gcd : mg "gcd" = some (.builtin "math.gcd")
  c_UNITS : GC K mg "UNITS" k_UNITS
  c_ZERO : GC K mg "ZERO" k_ZERO
  c_FAR : GC K mg "FAR" k_FAR
  c_MANY : GC K mg "MANY" k_MANY
  x_NoMap : ∃ C, Xc0 K mg "NoMap" C
  x_ArmError : ∃ C, Xc0 K mg "ArmError" C
  x1_InvalidComplex : ∃ C fI, PySem.XgX.XgTxt "InvalidComplex" "InvalidComplex.__init__" "given" K mg C fI
  x1_InvalidPlace : ∃ C fI, PySem.XgX.XgTxt "InvalidPlace" "InvalidPlace.__init__" "given" K mg C fI
  x1_InvalidRound : ∃ C fI, PySem.XgX.XgTxt "InvalidRound" "InvalidRound.__init__" "given" K mg C fI
  x1_Same : ∃ C fI, PySem.XgX.XgTxt "Same" "Same.__init__" "given" K mg C fI
  x1_InvalidMap : ∃ C fI, PySem.XgX.XgTxt "InvalidMap" "InvalidMap.__init__" "given" K mg C fI
  x1_InvalidFlag : ∃ C fI, PySem.XgX.XgTxt "InvalidFlag" "InvalidFlag.__init__" "given" K mg C fI
  x1_InvalidTriple : ∃ C fI, PySem.XgX.XgTxt "InvalidTriple" "InvalidTriple.__init__" "index" K mg C fI
  io_InvalidNumbers : ∃ C, mg "InvalidNumbers" = some (.ref C) ∧ ∀ nm cls, mg nm = some cls → ∀ b, is_InvalidNumbers nm = some b → ∃ D, cls = .ref D ∧ ExcC K D ∧ PySem.W.kitOne K (.ref D) (.ref C) = some b
  io_InvalidRow : ∃ C, mg "InvalidRow" = some (.ref C) ∧ ∀ nm cls, mg nm = some cls → ∀ b, is_InvalidRow nm = some b → ∃ D, cls = .ref D ∧ ExcC K D ∧ PySem.W.kitOne K (.ref D) (.ref C) = some b
  io_NoMap : ∃ C, mg "NoMap" = some (.ref C) ∧ ∀ nm cls, mg nm = some cls → ∀ b, is_NoMap nm = some b → ∃ D, cls = .ref D ∧ ExcC K D ∧ PySem.W.kitOne K (.ref D) (.ref C) = some b
  io_InvalidTriple : ∃ C, mg "InvalidTriple" = some (.ref C) ∧ ∀ nm cls, mg nm = some cls → ∀ b, is_InvalidTriple nm = some b → ∃ D, cls = .ref D ∧ ExcC K D ∧ PySem.W.kitOne K (.ref D) (.ref C) = some b
  io_Same : ∃ C, mg "Same" = some (.ref C) ∧ ∀ nm cls, mg nm = some cls → ∀ b, is_Same nm = some b → ∃ D, cls = .ref D ∧ ExcC K D ∧ PySem.W.kitOne K (.ref D) (.ref C) = some b
  io_InvalidRound : ∃ C, mg "InvalidRound" = some (.ref C) ∧ ∀ nm cls, mg nm = some cls → ∀ b, is_InvalidRound nm = some b → ∃ D, cls = .ref D ∧ ExcC K D ∧ PySem.W.kitOne K (.ref D) (.ref C) = some b
  io_InvalidPlace : ∃ C, mg "InvalidPlace" = some (.ref C) ∧ ∀ nm cls, mg nm = some cls → ∀ b, is_InvalidPlace nm = some b → ∃ D, cls = .ref D ∧ ExcC K D ∧ PySem.W.kitOne K (.ref D) (.ref C) = some b
  io_InvalidMap : ∃ C, mg "InvalidMap" = some (.ref C) ∧ ∀ nm cls, mg nm = some cls → ∀ b, is_InvalidMap nm = some b → ∃ D, cls = .ref D ∧ ExcC K D ∧ PySem.W.kitOne K (.ref D) (.ref C) = some b
  io_InvalidComplex : ∃ C, mg "InvalidComplex" = some (.ref C) ∧ ∀ nm cls, mg nm = some cls → ∀ b, is_InvalidComplex nm = some b → ∃ D, cls = .ref D ∧ ExcC K D ∧ PySem.W.kitOne K (.ref D) (.ref C) = some b
  io_InvalidFlag : ∃ C, mg "InvalidFlag" = some (.ref C) ∧ ∀ nm cls, mg nm = some cls → ∀ b, is_InvalidFlag nm = some b → ∃ D, cls = .ref D ∧ ExcC K D ∧ PySem.W.kitOne K (.ref D) (.ref C) = some b
  ib_ValueError : ∀ nm cls, mg nm = some cls → ∀ b, is_ValueError nm = some b → ∃ D, cls = .ref D ∧ ExcC K D ∧ PySem.W.kitOne K (.ref D) (.type "ValueError") = some b
  g_given : ∀ nm cls, mg nm = some cls → gv_given nm = true → ∃ qi C fI, cls = .ref C ∧ PySem.XgX.XgTxt nm qi "given" K mg C fI
  g_index : ∀ nm cls, mg nm = some cls → gv_index nm = true → ∃ qi C fI, cls = .ref C ∧ PySem.XgX.XgTxt nm qi "index" K mg C fI
  sysm : SysOk K
  m_ArmError : ∀ C, mg "ArmError" = some (.ref C) → ∀ nm cls, mt_ArmError nm = some true → mg nm = some cls → PySem.W.exmOne K cls (.ref C) = some true
section
variable {P : Program} {w : World} {K : PySem.W.Frag} {mg : Str → Option Value} {base : Heap}
theorem ok_is_whole (T : Tx K mg) : Ok P w K mg base 1 "is_whole" ["value"] sm_is_whole := by
  refine ok_def (N := ["value"]) T.d_is_whole sc_is_whole (fun _ _ _ _ _ _ us hl => match us, hl with | [_], _ => rfl) (fun _ _ _ _ _ _ us hl => match us, hl with | [_], _ => rfl) fun f cdv A fs s H E hr hgd => ?_
  have nd := sc_is_whole.nd
  exact ss_one (s_ret (d_andV (d_isi .int (d_var 0) T.z_isinstance T.z_int) (d_v1 (d_notV (d_isi .bool (d_var 0) T.z_isinstance T.z_bool)))))
theorem ok_are_wholes (T : Tx K mg) : Ok P w K mg base 2 "are_wholes" ["value", "many"] sm_are_wholes := by
  refine ok_def (N := ["value", "many", "number"]) T.d_are_wholes sc_are_wholes (fun _ _ _ _ _ _ us hl => match us, hl with | [_, _], _ => rfl) (fun _ _ _ _ _ _ us hl => match us, hl with | [_, _], _ => rfl) fun f cdv A fs s H E hr hgd => ?_
  have nd := sc_are_wholes.nd
  exact ss_one (s_ret (d_andV (d_isi .tuple (d_var 0) T.z_isinstance T.z_tuple) (d_andV (d_feq hr (g_len T.z_len (a_cons (d_var 0) (a_nil))) (d_var 1)) (d_v1 (g_all rfl T.z_all (a_cons (d_lc [("number", 2)] rfl nd (g_seq (d_var 0)) (cg_name) (fun _ _ _ _ _ => pg_name (i := 2) nd rfl (by first | exact Or.inl rfl | exact Or.inr rfl)) (fun _ _ _ _ _ => ts_nil) (fun _ _ _ _ _ => d_call (ok_is_whole T) (hr.mono (by decide)) hgd (a_cons (d_var 2) (a_nil))) (ok := blkOk_by (N := ["value", "many", "number"]) (sc := defScope st_are_wholes) (by decide +kernel))) (a_nil)))))))
theorem ok_divisor_of (T : Tx K mg) : Ok P w K mg base 1 "divisor_of" ["numbers"] sm_divisor_of := by
  refine ok_def (N := ["numbers", "found", "number"]) T.d_divisor_of sc_divisor_of (fun _ _ _ _ _ _ us hl => match us, hl with | [_], _ => rfl) (fun _ _ _ _ _ _ us hl => match us, hl with | [_], _ => rfl) fun f cdv A fs s H E hr hgd => ?_
  have nd := sc_divisor_of.nd
  exact ss_cons (s_set 1 nd (d_int)) (ss_cons (s_forI PassesOwn.never rfl (g_seq (d_var 0)) (g_name 2 nd) (ss_one (s_set 1 nd (g_gcd T.b_gcd (a_cons (d_var 1) (a_cons (d_var 2) (a_nil))))))) (ss_one (s_ret (d_var 1))))
theorem ok_lowest (T : Tx K mg) : Ok P w K mg base 2 "lowest" ["numbers"] sm_lowest := by
  refine ok_def (N := ["numbers", "divisor", "number"]) T.d_lowest sc_lowest (fun _ _ _ _ _ _ us hl => match us, hl with | [_], _ => rfl) (fun _ _ _ _ _ _ us hl => match us, hl with | [_], _ => rfl) fun f cdv A fs s H E hr hgd => ?_
  have nd := sc_lowest.nd
  exact ss_cons (s_set 1 nd (d_call (ok_divisor_of T) (hr.mono (by decide)) hgd (a_cons (d_var 0) (a_nil)))) (ss_one (s_ret (g_totup T.z_tuple (a_cons (d_lc [("number", 2)] rfl nd (g_seq (d_var 0)) (cg_name) (fun _ _ _ _ _ => pg_name (i := 2) nd rfl (by first | exact Or.inl rfl | exact Or.inr rfl)) (fun _ _ _ _ _ => ts_nil) (fun _ _ _ _ _ => f_div (d_var 2) (d_var 1)) (ok := blkOk_by (N := ["numbers", "divisor", "number"]) (sc := defScope st_lowest) (by decide +kernel))) (a_nil)))))
theorem ok_is_lowest (T : Tx K mg) : Ok P w K mg base 2 "is_lowest" ["numbers"] sm_is_lowest := by
  refine ok_def (N := ["numbers"]) T.d_is_lowest sc_is_lowest (fun _ _ _ _ _ _ us hl => match us, hl with | [_], _ => rfl) (fun _ _ _ _ _ _ us hl => match us, hl with | [_], _ => rfl) fun f cdv A fs s H E hr hgd => ?_
  have nd := sc_is_lowest.nd
  exact ss_one (s_ret (d_feq hr (d_call (ok_divisor_of T) (hr.mono (by decide)) hgd (a_cons (d_var 0) (a_nil))) (d_int)))
theorem ok_is_led_up (T : Tx K mg) : Ok P w K mg base 1 "is_led_up" ["numbers"] sm_is_led_up := by
  refine ok_def (N := ["numbers", "number"]) T.d_is_led_up sc_is_led_up (fun _ _ _ _ _ _ us hl => match us, hl with | [_], _ => rfl) (fun _ _ _ _ _ _ us hl => match us, hl with | [_], _ => rfl) fun f cdv A fs s H E hr hgd => ?_
  have nd := sc_is_led_up.nd
  exact ss_cons (s_forI PassesOwn.never rfl (g_seq (d_var 0)) (g_name 1 nd) (ss_one (s_if (t_fne hr (d_var 1) (d_int)) (ss_one (s_ret (d_fgt (d_var 1) (d_int)))) (ss_nil)))) (ss_one (s_ret (d_bl)))
theorem ok_first_above (T : Tx K mg) : Ok P w K mg base 3 "first_above" ["numbers"] sm_first_above := by
  refine ok_def (N := ["numbers", "found", "number"]) T.d_first_above sc_first_above (fun _ _ _ _ _ _ us hl => match us, hl with | [_], _ => rfl) (fun _ _ _ _ _ _ us hl => match us, hl with | [_], _ => rfl) fun f cdv A fs s H E hr hgd => ?_
  have nd := sc_first_above.nd
  exact ss_cons (s_set 1 nd (d_call (ok_lowest T) (hr.mono (by decide)) hgd (a_cons (d_var 0) (a_nil)))) (ss_one (s_ret (d_if (d_tst (d_call (ok_is_led_up T) (hr.mono (by decide)) hgd (a_cons (d_var 1) (a_nil)))) (d_var 1) (g_totup T.z_tuple (a_cons (d_lc [("number", 2)] rfl nd (g_seq (d_var 1)) (cg_name) (fun _ _ _ _ _ => pg_name (i := 2) nd rfl (by first | exact Or.inl rfl | exact Or.inr rfl)) (fun _ _ _ _ _ => ts_nil) (fun _ _ _ _ _ => d_neg (d_var 2)) (ok := blkOk_by (N := ["numbers", "found", "number"]) (sc := defScope st_first_above) (by decide +kernel))) (a_nil))))))
theorem ok_is_complex (T : Tx K mg) : Ok P w K mg base 3 "is_complex" ["value"] sm_is_complex := by
  refine ok_def (N := ["value"]) T.d_is_complex sc_is_complex (fun _ _ _ _ _ _ us hl => match us, hl with | [_], _ => rfl) (fun _ _ _ _ _ _ us hl => match us, hl with | [_], _ => rfl) fun f cdv A fs s H E hr hgd => ?_
  have nd := sc_is_complex.nd
  exact ss_one (s_ret (d_call (ok_are_wholes T) (hr.mono (by decide)) hgd (a_cons (d_var 0) (a_cons (d_int) (a_nil)))))
theorem ok_check_complex (T : Tx K mg) : OkX P w K mg base 4 "check_complex" ["value"] se_check_complex := by
  obtain ⟨C_InvalidComplex, fI_InvalidComplex, x_InvalidComplex⟩ := T.x1_InvalidComplex
  refine ok_defX (N := ["value"]) T.d_check_complex sc_check_complex (fun _ _ _ _ _ _ us hl => match us, hl with | [_], _ => rfl) (fun _ _ _ _ _ _ us hl => match us, hl with | [_], _ => rfl) fun f cdv A fs s H E hr hgd c r W tk lk => ?_
  have nd := sc_check_complex.nd
  exact ssx_one (sx_if (d_tnot (d_tst (d_call (ok_is_complex T) (hr.mono (by decide)) hgd (a_cons (d_var 0) (a_nil))))) (ssx_one (sx_raise1 x_InvalidComplex rfl hr tk lk (d_var 0))) (ssx_of (ss_nil)))
theorem ok_plus (T : Tx K mg) : Ok P w K mg base 1 "plus" ["number", "other"] sm_plus := by
  refine ok_def (N := ["number", "other"]) T.d_plus sc_plus (fun _ _ _ _ _ _ us hl => match us, hl with | [_, _], _ => rfl) (fun _ _ _ _ _ _ us hl => match us, hl with | [_, _], _ => rfl) fun f cdv A fs s H E hr hgd => ?_
  have nd := sc_plus.nd
  exact ss_one (s_ret (d_tup (a_cons (f_add (f_ix (d_var 0) (d_int)) (f_ix (d_var 1) (d_int))) (a_cons (f_add (f_ix (d_var 0) (d_int)) (f_ix (d_var 1) (d_int))) (a_nil)))))
theorem ok_minus (T : Tx K mg) : Ok P w K mg base 1 "minus" ["number", "other"] sm_minus := by
  refine ok_def (N := ["number", "other"]) T.d_minus sc_minus (fun _ _ _ _ _ _ us hl => match us, hl with | [_, _], _ => rfl) (fun _ _ _ _ _ _ us hl => match us, hl with | [_, _], _ => rfl) fun f cdv A fs s H E hr hgd => ?_
  have nd := sc_minus.nd
  exact ss_one (s_ret (d_tup (a_cons (f_sub (f_ix (d_var 0) (d_int)) (f_ix (d_var 1) (d_int))) (a_cons (f_sub (f_ix (d_var 0) (d_int)) (f_ix (d_var 1) (d_int))) (a_nil)))))
theorem ok_times (T : Tx K mg) : Ok P w K mg base 1 "times" ["number", "other"] sm_times := by
  refine ok_def (N := ["number", "other"]) T.d_times sc_times (fun _ _ _ _ _ _ us hl => match us, hl with | [_, _], _ => rfl) (fun _ _ _ _ _ _ us hl => match us, hl with | [_, _], _ => rfl) fun f cdv A fs s H E hr hgd => ?_
  have nd := sc_times.nd
  exact ss_one (s_ret (d_tup (a_cons (f_sub (f_mul (f_ix (d_var 0) (d_int)) (f_ix (d_var 1) (d_int))) (f_mul (f_ix (d_var 0) (d_int)) (f_ix (d_var 1) (d_int)))) (a_cons (f_add (f_mul (f_ix (d_var 0) (d_int)) (f_ix (d_var 1) (d_int))) (f_mul (f_ix (d_var 0) (d_int)) (f_ix (d_var 1) (d_int)))) (a_nil)))))
theorem ok_scaled (T : Tx K mg) : Ok P w K mg base 1 "scaled" ["number", "factor"] sm_scaled := by
  refine ok_def (N := ["number", "factor"]) T.d_scaled sc_scaled (fun _ _ _ _ _ _ us hl => match us, hl with | [_, _], _ => rfl) (fun _ _ _ _ _ _ us hl => match us, hl with | [_, _], _ => rfl) fun f cdv A fs s H E hr hgd => ?_
  have nd := sc_scaled.nd
  exact ss_one (s_ret (d_tup (a_cons (f_mul (d_var 1) (f_ix (d_var 0) (d_int))) (a_cons (f_mul (d_var 1) (f_ix (d_var 0) (d_int))) (a_nil)))))
theorem ok_turned_over (T : Tx K mg) : Ok P w K mg base 1 "turned_over" ["number"] sm_turned_over := by
  refine ok_def (N := ["number"]) T.d_turned_over sc_turned_over (fun _ _ _ _ _ _ us hl => match us, hl with | [_], _ => rfl) (fun _ _ _ _ _ _ us hl => match us, hl with | [_], _ => rfl) fun f cdv A fs s H E hr hgd => ?_
  have nd := sc_turned_over.nd
  exact ss_one (s_ret (d_tup (a_cons (f_ix (d_var 0) (d_int)) (a_cons (d_neg (f_ix (d_var 0) (d_int))) (a_nil)))))
theorem ok_square_size (T : Tx K mg) : Ok P w K mg base 1 "square_size" ["number"] sm_square_size := by
  refine ok_def (N := ["number"]) T.d_square_size sc_square_size (fun _ _ _ _ _ _ us hl => match us, hl with | [_], _ => rfl) (fun _ _ _ _ _ _ us hl => match us, hl with | [_], _ => rfl) fun f cdv A fs s H E hr hgd => ?_
  have nd := sc_square_size.nd
  exact ss_one (s_ret (f_add (f_mul (f_ix (d_var 0) (d_int)) (f_ix (d_var 0) (d_int))) (f_mul (f_ix (d_var 0) (d_int)) (f_ix (d_var 0) (d_int)))))
theorem ok_unit_for (T : Tx K mg) : Ok P w K mg base 2 "unit_for" ["number"] sm_unit_for := by
  refine ok_def (N := ["number", "unit", "found"]) T.d_unit_for sc_unit_for (fun _ _ _ _ _ _ us hl => match us, hl with | [_], _ => rfl) (fun _ _ _ _ _ _ us hl => match us, hl with | [_], _ => rfl) fun f cdv A fs s H E hr hgd => ?_
  have nd := sc_unit_for.nd
  exact ss_cons (s_forI PassesOwn.never rfl (g_seq (g_slice (d_gc T.c_UNITS) p_none (p_some (d_int)))) (g_name 1 nd) (ss_cons (s_set 2 nd (d_call (ok_times T) (hr.mono (by decide)) hgd (a_cons (d_var 0) (a_cons (d_var 1) (a_nil))))) (ss_one (s_if ((d_wand (t_fgt (f_ix (d_var 2) (d_int)) (d_int)) (d_w1a (t_fge (f_ix (d_var 2) (d_int)) (d_int)))).pt) (ss_one (s_ret (d_var 1))) (ss_nil))))) (ss_one (s_ret (f_ix (d_gc T.c_UNITS) (d_int))))
theorem ok_nearest (T : Tx K mg) : Ok P w K mg base 1 "nearest" ["number", "below"] sm_nearest := by
  refine ok_def (N := ["number", "below"]) T.d_nearest sc_nearest (fun _ _ _ _ _ _ us hl => match us, hl with | [_, _], _ => rfl) (fun _ _ _ _ _ _ us hl => match us, hl with | [_, _], _ => rfl) fun f cdv A fs s H E hr hgd => ?_
  have nd := sc_nearest.nd
  exact ss_one (s_ret (f_div (f_add (f_mul (d_int) (d_var 0)) (d_var 1)) (f_mul (d_int) (d_var 1))))
theorem ok_divisor_of_two (T : Tx K mg) : Ok P w K mg base 2 "divisor_of_two" ["number", "other"] sm_divisor_of_two := by
  refine ok_def (N := ["number", "other", "one", "two", "product", "whole"]) T.d_divisor_of_two sc_divisor_of_two (fun _ _ _ _ _ _ us hl => match us, hl with | [_, _], _ => rfl) (fun _ _ _ _ _ _ us hl => match us, hl with | [_, _], _ => rfl) fun f cdv A fs s H E hr hgd => ?_
  have nd := sc_divisor_of_two.nd
  exact ss_cons (s_par 2 3 rfl nd (a_cons (d_var 0) (a_cons (d_var 1) (a_nil)))) (ss_cons (s_while PassesOwn.never (t_fne hr (d_var 3) (d_gc T.c_ZERO)) (ss_cons (s_set 4 nd (d_call (ok_times T) (hr.mono (by decide)) hgd (a_cons (d_var 2) (a_cons (d_call (ok_turned_over T) (hr.mono (by decide)) hgd (a_cons (d_var 3) (a_nil))) (a_nil))))) (ss_cons (s_set 5 nd (d_tup (a_cons (d_call (ok_nearest T) (hr.mono (by decide)) hgd (a_cons (f_ix (d_var 4) (d_int)) (a_cons (d_call (ok_square_size T) (hr.mono (by decide)) hgd (a_cons (d_var 3) (a_nil))) (a_nil)))) (a_cons (d_call (ok_nearest T) (hr.mono (by decide)) hgd (a_cons (f_ix (d_var 4) (d_int)) (a_cons (d_call (ok_square_size T) (hr.mono (by decide)) hgd (a_cons (d_var 3) (a_nil))) (a_nil)))) (a_nil))))) (ss_one (s_par 2 3 rfl nd (a_cons (d_var 3) (a_cons (d_call (ok_minus T) (hr.mono (by decide)) hgd (a_cons (d_var 2) (a_cons (d_call (ok_times T) (hr.mono (by decide)) hgd (a_cons (d_var 5) (a_cons (d_var 3) (a_nil)))) (a_nil)))) (a_nil)))))))) (ss_one (s_ret (d_var 2))))
theorem ok_divisor_of_all (T : Tx K mg) : Ok P w K mg base 3 "divisor_of_all" ["numbers"] sm_divisor_of_all := by
  refine ok_def (N := ["numbers", "found", "number"]) T.d_divisor_of_all sc_divisor_of_all (fun _ _ _ _ _ _ us hl => match us, hl with | [_], _ => rfl) (fun _ _ _ _ _ _ us hl => match us, hl with | [_], _ => rfl) fun f cdv A fs s H E hr hgd => ?_
  have nd := sc_divisor_of_all.nd
  exact ss_cons (s_set 1 nd (d_gc T.c_ZERO)) (ss_cons (s_forI PassesOwn.never rfl (g_seq (d_var 0)) (g_name 2 nd) (ss_one (s_set 1 nd (d_call (ok_divisor_of_two T) (hr.mono (by decide)) hgd (a_cons (d_var 1) (a_cons (d_var 2) (a_nil))))))) (ss_one (s_ret (d_var 1))))
theorem ok_divided (T : Tx K mg) : Ok P w K mg base 2 "divided" ["number", "other"] sm_divided := by
  refine ok_def (N := ["number", "other", "product", "below"]) T.d_divided sc_divided (fun _ _ _ _ _ _ us hl => match us, hl with | [_, _], _ => rfl) (fun _ _ _ _ _ _ us hl => match us, hl with | [_, _], _ => rfl) fun f cdv A fs s H E hr hgd => ?_
  have nd := sc_divided.nd
  exact ss_cons (s_par 2 3 rfl nd (a_cons (d_call (ok_times T) (hr.mono (by decide)) hgd (a_cons (d_var 0) (a_cons (d_call (ok_turned_over T) (hr.mono (by decide)) hgd (a_cons (d_var 1) (a_nil))) (a_nil)))) (a_cons (d_call (ok_square_size T) (hr.mono (by decide)) hgd (a_cons (d_var 1) (a_nil))) (a_nil)))) (ss_cons (s_if ((d_wor (t_fne hr (f_mod (f_ix (d_var 2) (d_int)) (d_var 3)) (d_int)) (d_w1o (t_fne hr (f_mod (f_ix (d_var 2) (d_int)) (d_var 3)) (d_int)))).pt) (ss_one (s_ret (d_non))) (ss_nil)) (ss_one (s_ret (d_tup (a_cons (f_div (f_ix (d_var 2) (d_int)) (d_var 3)) (a_cons (f_div (f_ix (d_var 2) (d_int)) (d_var 3)) (a_nil)))))))
theorem ok_is_place (T : Tx K mg) : Ok P w K mg base 3 "is_place" ["value"] sm_is_place := by
  refine ok_def (N := ["value"]) T.d_is_place sc_is_place (fun _ _ _ _ _ _ us hl => match us, hl with | [_], _ => rfl) (fun _ _ _ _ _ _ us hl => match us, hl with | [_], _ => rfl) fun f cdv A fs s H E hr hgd => ?_
  have nd := sc_is_place.nd
  exact ss_one (s_ret (d_andV (d_call (ok_are_wholes T) (hr.mono (by decide)) hgd (a_cons (d_var 0) (a_cons (d_int) (a_nil)))) (d_v1 (d_orV (d_feq hr (d_var 0) (d_gc T.c_FAR)) (d_v1 (d_andV (d_fgt (f_ix (d_var 0) (d_int)) (d_int)) (d_v1 (d_call (ok_is_lowest T) (hr.mono (by decide)) hgd (a_cons (d_var 0) (a_nil))))))))))
theorem ok_check_place (T : Tx K mg) : OkX P w K mg base 4 "check_place" ["value"] se_check_place := by
  obtain ⟨C_InvalidPlace, fI_InvalidPlace, x_InvalidPlace⟩ := T.x1_InvalidPlace
  refine ok_defX (N := ["value"]) T.d_check_place sc_check_place (fun _ _ _ _ _ _ us hl => match us, hl with | [_], _ => rfl) (fun _ _ _ _ _ _ us hl => match us, hl with | [_], _ => rfl) fun f cdv A fs s H E hr hgd c r W tk lk => ?_
  have nd := sc_check_place.nd
  exact ssx_one (sx_if (d_tnot (d_tst (d_call (ok_is_place T) (hr.mono (by decide)) hgd (a_cons (d_var 0) (a_nil))))) (ssx_one (sx_raise1 x_InvalidPlace rfl hr tk lk (d_var 0))) (ssx_of (ss_nil)))
theorem ok_quotient_place (T : Tx K mg) : Ok P w K mg base 3 "quotient_place" ["number", "other"] sm_quotient_place := by
  refine ok_def (N := ["number", "other", "product"]) T.d_quotient_place sc_quotient_place (fun _ _ _ _ _ _ us hl => match us, hl with | [_, _], _ => rfl) (fun _ _ _ _ _ _ us hl => match us, hl with | [_, _], _ => rfl) fun f cdv A fs s H E hr hgd => ?_
  have nd := sc_quotient_place.nd
  exact ss_cons (s_if (t_feq hr (d_var 1) (d_gc T.c_ZERO)) (ss_one (s_ret (d_gc T.c_FAR))) (ss_nil)) (ss_cons (s_set 2 nd (d_call (ok_times T) (hr.mono (by decide)) hgd (a_cons (d_var 0) (a_cons (d_call (ok_turned_over T) (hr.mono (by decide)) hgd (a_cons (d_var 1) (a_nil))) (a_nil))))) (ss_one (s_ret (d_call (ok_lowest T) (hr.mono (by decide)) hgd (a_cons (d_tup (a_cons (f_ix (d_var 2) (d_int)) (a_cons (f_ix (d_var 2) (d_int)) (a_cons (d_call (ok_square_size T) (hr.mono (by decide)) hgd (a_cons (d_var 1) (a_nil))) (a_nil))))) (a_nil))))))
theorem ok_bend (T : Tx K mg) : Ok P w K mg base 1 "bend" ["row"] sm_bend := by
  refine ok_def (N := ["row"]) T.d_bend sc_bend (fun _ _ _ _ _ _ us hl => match us, hl with | [_], _ => rfl) (fun _ _ _ _ _ _ us hl => match us, hl with | [_], _ => rfl) fun f cdv A fs s H E hr hgd => ?_
  have nd := sc_bend.nd
  exact ss_one (s_ret (f_sub (f_add (f_mul (f_ix (d_var 0) (d_int)) (f_ix (d_var 0) (d_int))) (f_mul (f_ix (d_var 0) (d_int)) (f_ix (d_var 0) (d_int)))) (f_mul (f_mul (d_int) (f_ix (d_var 0) (d_int))) (f_ix (d_var 0) (d_int)))))
theorem ok_is_row (T : Tx K mg) : Ok P w K mg base 3 "is_row" ["value"] sm_is_row := by
  refine ok_def (N := ["value"]) T.d_is_row sc_is_row (fun _ _ _ _ _ _ us hl => match us, hl with | [_], _ => rfl) (fun _ _ _ _ _ _ us hl => match us, hl with | [_], _ => rfl) fun f cdv A fs s H E hr hgd => ?_
  have nd := sc_is_row.nd
  exact ss_one (s_ret (d_andV (d_call (ok_are_wholes T) (hr.mono (by decide)) hgd (a_cons (d_var 0) (a_cons (d_int) (a_nil)))) (d_andV (d_call (ok_is_lowest T) (hr.mono (by decide)) hgd (a_cons (d_var 0) (a_nil))) (d_v1 (d_fgt (d_call (ok_bend T) (hr.mono (by decide)) hgd (a_cons (d_var 0) (a_nil))) (d_int))))))
theorem ok_is_round (T : Tx K mg) : Ok P w K mg base 4 "is_round" ["value"] sm_is_round := by
  refine ok_def (N := ["value"]) T.d_is_round sc_is_round (fun _ _ _ _ _ _ us hl => match us, hl with | [_], _ => rfl) (fun _ _ _ _ _ _ us hl => match us, hl with | [_], _ => rfl) fun f cdv A fs s H E hr hgd => ?_
  have nd := sc_is_round.nd
  exact ss_one (s_ret (d_andV (d_call (ok_is_row T) (hr.mono (by decide)) hgd (a_cons (d_var 0) (a_nil))) (d_v1 (d_call (ok_is_led_up T) (hr.mono (by decide)) hgd (a_cons (d_var 0) (a_nil))))))
theorem ok_check_round (T : Tx K mg) : OkX P w K mg base 5 "check_round" ["value"] se_check_round := by
  obtain ⟨C_InvalidRound, fI_InvalidRound, x_InvalidRound⟩ := T.x1_InvalidRound
  refine ok_defX (N := ["value"]) T.d_check_round sc_check_round (fun _ _ _ _ _ _ us hl => match us, hl with | [_], _ => rfl) (fun _ _ _ _ _ _ us hl => match us, hl with | [_], _ => rfl) fun f cdv A fs s H E hr hgd c r W tk lk => ?_
  have nd := sc_check_round.nd
  exact ssx_one (sx_if (d_tnot (d_tst (d_call (ok_is_round T) (hr.mono (by decide)) hgd (a_cons (d_var 0) (a_nil))))) (ssx_one (sx_raise1 x_InvalidRound rfl hr tk lk (d_var 0))) (ssx_of (ss_nil)))
theorem ok_check_apart (T : Tx K mg) : OkX P w K mg base 5 "check_apart" ["places"] se_check_apart := by
  obtain ⟨C_Same, fI_Same, x_Same⟩ := T.x1_Same
  refine ok_defX (N := ["places", "place", "index"]) T.d_check_apart sc_check_apart (fun _ _ _ _ _ _ us hl => match us, hl with | [_], _ => rfl) (fun _ _ _ _ _ _ us hl => match us, hl with | [_], _ => rfl) fun f cdv A fs s H E hr hgd c r W tk lk => ?_
  have nd := sc_check_apart.nd
  exact ssx_cons (sx_forI (L2.passes_of rfl) rfl (g_seq (d_var 0)) (g_name 1 nd) (ssx_one (sx_expr (x_call (ok_check_place T) (hr.mono (by decide)) hgd tk lk (a_cons (d_var 1) (a_nil)))))) (ssx_one (sx_forI (L2.passes_of rfl) rfl (i_enum T.z_enumerate (d_var 0)) (g_unp rfl (gs_cons (g_name 2 nd) (gs_cons (g_name 1 nd) (gs_nil)))) (ssx_one (sx_if (t_finS hr (d_var 1) (g_slice (d_var 0) p_none (p_some (d_var 2)))) (ssx_one (sx_raise1 x_Same rfl hr tk lk (d_var 1))) (ssx_of (ss_nil))))))
theorem ok_determinant (T : Tx K mg) : Ok P w K mg base 2 "determinant" ["chart"] sm_determinant := by
  refine ok_def (N := ["chart"]) T.d_determinant sc_determinant (fun _ _ _ _ _ _ us hl => match us, hl with | [_], _ => rfl) (fun _ _ _ _ _ _ us hl => match us, hl with | [_], _ => rfl) fun f cdv A fs s H E hr hgd => ?_
  have nd := sc_determinant.nd
  exact ss_one (s_ret (d_call (ok_minus T) (hr.mono (by decide)) hgd (a_cons (d_call (ok_times T) (hr.mono (by decide)) hgd (a_cons (f_ix (d_var 0) (d_int)) (a_cons (f_ix (d_var 0) (d_int)) (a_nil)))) (a_cons (d_call (ok_times T) (hr.mono (by decide)) hgd (a_cons (f_ix (d_var 0) (d_int)) (a_cons (f_ix (d_var 0) (d_int)) (a_nil)))) (a_nil)))))
theorem ok_form_of (T : Tx K mg) : Ok P w K mg base 4 "form_of" ["is_mirrored", "numbers"] sm_form_of := by
  refine ok_def (N := ["is_mirrored", "numbers", "common", "found", "number", "unit"]) T.d_form_of sc_form_of (fun _ _ _ _ _ _ us hl => match us, hl with | [_, _], _ => rfl) (fun _ _ _ _ _ _ us hl => match us, hl with | [_, _], _ => rfl) fun f cdv A fs s H E hr hgd => ?_
  have nd := sc_form_of.nd
  exact ss_cons (s_set 2 nd (d_call (ok_divisor_of_all T) (hr.mono (by decide)) hgd (a_cons (d_var 1) (a_nil)))) (ss_cons (s_setLc 3 [("number", 4)] rfl nd (g_seq (d_var 1)) (cg_name) (fun _ _ _ _ _ => pg_name (i := 4) nd rfl (by first | exact Or.inl rfl | exact Or.inr rfl)) (fun _ _ _ _ _ => ts_nil) (fun _ _ _ _ _ => d_call (ok_divided T) (hr.mono (by decide)) hgd (a_cons (d_var 4) (a_cons (d_var 2) (a_nil)))) (ok := blkOk_by (N := ["is_mirrored", "numbers", "common", "found", "number", "unit"]) (sc := defScope st_form_of) (by decide +kernel)) (sw_true rfl rfl rfl (by decide +kernel))) (ss_cons (s_set 5 nd (d_call (ok_unit_for T) (hr.mono (by decide)) hgd (a_cons (f_ix (d_lc [("number", 4)] rfl nd (g_seq (d_var 3)) (cg_name) (fun _ _ _ _ _ => pg_name (i := 4) nd rfl (by first | exact Or.inl rfl | exact Or.inr rfl)) (fun _ _ _ _ _ => ts_one (t_fne hr (d_var 4) (d_gc T.c_ZERO))) (fun _ _ _ _ _ => d_var 4) (ok := blkOk_by (N := ["is_mirrored", "numbers", "common", "found", "number", "unit"]) (sc := defScope st_form_of) (by decide +kernel))) (d_int)) (a_nil)))) (ss_one (s_ret (d_tup (a_cons (d_var 0) (a_star (d_lc [("number", 4)] rfl nd (g_seq (d_var 3)) (cg_name) (fun _ _ _ _ _ => pg_name (i := 4) nd rfl (by first | exact Or.inl rfl | exact Or.inr rfl)) (fun _ _ _ _ _ => ts_nil) (fun _ _ _ _ _ => d_call (ok_times T) (hr.mono (by decide)) hgd (a_cons (d_var 4) (a_cons (d_var 5) (a_nil)))) (ok := blkOk_by (N := ["is_mirrored", "numbers", "common", "found", "number", "unit"]) (sc := defScope st_form_of) (by decide +kernel))) (a_nil))))))))
theorem ok_is_flag (T : Tx K mg) : Ok P w K mg base 2 "is_flag" ["value"] sm_is_flag := by
  refine ok_def (N := ["value"]) T.d_is_flag sc_is_flag (fun _ _ _ _ _ _ us hl => match us, hl with | [_], _ => rfl) (fun _ _ _ _ _ _ us hl => match us, hl with | [_], _ => rfl) fun f cdv A fs s H E hr hgd => ?_
  have nd := sc_is_flag.nd
  exact ss_one (s_ret (d_andV (d_call (ok_is_whole T) (hr.mono (by decide)) hgd (a_cons (d_var 0) (a_nil))) (d_v1 (d_finS hr (d_var 0) (d_tup (a_cons (d_int) (a_cons (d_int) (a_nil))))))))
theorem ok_is_map (T : Tx K mg) : Ok P w K mg base 5 "is_map" ["value"] sm_is_map := by
  refine ok_def (N := ["value", "number"]) T.d_is_map sc_is_map (fun _ _ _ _ _ _ us hl => match us, hl with | [_], _ => rfl) (fun _ _ _ _ _ _ us hl => match us, hl with | [_], _ => rfl) fun f cdv A fs s H E hr hgd => ?_
  have nd := sc_is_map.nd
  exact ss_cons (s_if ((d_wor (d_tnot (d_tst (d_isi .tuple (d_var 0) T.z_isinstance T.z_tuple))) (d_wor (t_fne hr (g_len T.z_len (a_cons (d_var 0) (a_nil))) (d_int)) (d_w1o (d_tnot (d_tst (d_call (ok_is_flag T) (hr.mono (by decide)) hgd (a_cons (f_ix (d_var 0) (d_int)) (a_nil)))))))).pt) (ss_one (s_ret (d_bl))) (ss_nil)) (ss_cons (s_if ((d_wor (t_fne hr (d_lc [("number", 1)] rfl nd (g_seq (g_slice (d_var 0) (p_some (d_int)) p_none)) (cg_name) (fun _ _ _ _ _ => pg_name (i := 1) nd rfl (by first | exact Or.inl rfl | exact Or.inr rfl)) (fun _ _ _ _ _ => ts_one (d_tnot (d_tst (d_call (ok_is_complex T) (hr.mono (by decide)) hgd (a_cons (d_var 1) (a_nil)))))) (fun _ _ _ _ _ => d_var 1) (ok := blkOk_by (N := ["value", "number"]) (sc := defScope st_is_map) (by decide +kernel))) (d_lst (a_nil))) (d_w1o (t_feq hr (d_call (ok_determinant T) (hr.mono (by decide)) hgd (a_cons (d_var 0) (a_nil))) (d_gc T.c_ZERO)))).pt) (ss_one (s_ret (d_bl))) (ss_nil)) (ss_one (s_ret (d_feq hr (d_call (ok_form_of T) (hr.mono (by decide)) hgd (a_cons (f_ix (d_var 0) (d_int)) (a_cons (g_slice (d_var 0) (p_some (d_int)) p_none) (a_nil)))) (d_var 0)))))
theorem ok_check_map (T : Tx K mg) : OkX P w K mg base 6 "check_map" ["value"] se_check_map := by
  obtain ⟨C_InvalidMap, fI_InvalidMap, x_InvalidMap⟩ := T.x1_InvalidMap
  refine ok_defX (N := ["value"]) T.d_check_map sc_check_map (fun _ _ _ _ _ _ us hl => match us, hl with | [_], _ => rfl) (fun _ _ _ _ _ _ us hl => match us, hl with | [_], _ => rfl) fun f cdv A fs s H E hr hgd c r W tk lk => ?_
  have nd := sc_check_map.nd
  exact ssx_one (sx_if (d_tnot (d_tst (d_call (ok_is_map T) (hr.mono (by decide)) hgd (a_cons (d_var 0) (a_nil))))) (ssx_one (sx_raise1 x_InvalidMap rfl hr tk lk (d_var 0))) (ssx_of (ss_nil)))
theorem ok_map_of (T : Tx K mg) : OkX P w K mg base 5 "map_of" ["is_mirrored", "first", "second", "third", "fourth"] se_map_of := by
  obtain ⟨C_NoMap, x_NoMap⟩ := T.x_NoMap
  obtain ⟨C_InvalidFlag, fI_InvalidFlag, x_InvalidFlag⟩ := T.x1_InvalidFlag
  refine ok_defX (N := ["is_mirrored", "first", "second", "third", "fourth", "numbers", "number"]) T.d_map_of sc_map_of (fun _ _ _ _ _ _ us hl => match us, hl with | [_, _, _, _, _], _ => rfl) (fun _ _ _ _ _ _ us hl => match us, hl with | [_, _, _, _, _], _ => rfl) fun f cdv A fs s H E hr hgd c r W tk lk => ?_
  have nd := sc_map_of.nd
  exact ssx_cons (sx_if (d_tnot (d_tst (d_call (ok_is_flag T) (hr.mono (by decide)) hgd (a_cons (d_var 0) (a_nil))))) (ssx_one (sx_raise1 x_InvalidFlag rfl hr tk lk (d_var 0))) (ssx_of (ss_nil))) (ssx_cons (sx_of (s_set 5 nd (d_tup (a_cons (d_var 1) (a_cons (d_var 2) (a_cons (d_var 3) (a_cons (d_var 4) (a_nil)))))))) (ssx_cons (sx_forI (L2.passes_of rfl) rfl (g_seq (d_var 5)) (g_name 6 nd) (ssx_one (sx_expr (x_call (ok_check_complex T) (hr.mono (by decide)) hgd tk lk (a_cons (d_var 6) (a_nil)))))) (ssx_cons (sx_if (t_feq hr (d_call (ok_determinant T) (hr.mono (by decide)) hgd (a_cons (d_tup (a_cons (d_var 0) (a_star (d_var 5) (a_nil)))) (a_nil))) (d_gc T.c_ZERO)) (ssx_one (sx_raise0 x_NoMap rfl tk lk)) (ssx_of (ss_nil))) (ssx_one (sx_of (s_ret (d_call (ok_form_of T) (hr.mono (by decide)) hgd (a_cons (d_var 0) (a_cons (d_var 5) (a_nil))))))))))
theorem ok_led_by (T : Tx K mg) : Ok P w K mg base 4 "led_by" ["chart", "place"] sm_led_by := by
  refine ok_def (N := ["chart", "place", "is_mirrored", "a", "b", "c", "d", "p", "s", "r", "number"]) T.d_led_by sc_led_by (fun _ _ _ _ _ _ us hl => match us, hl with | [_, _], _ => rfl) (fun _ _ _ _ _ _ us hl => match us, hl with | [_, _], _ => rfl) fun f cdv A fs s H E hr hgd => ?_
  have nd := sc_led_by.nd
  exact ss_cons (s_asg (d_var 0) (g_unp rfl (gs_cons (g_name 2 nd) (gs_cons (g_name 3 nd) (gs_cons (g_name 4 nd) (gs_cons (g_name 5 nd) (gs_cons (g_name 6 nd) (gs_nil)))))))) (ss_cons (s_asg (d_var 1) (g_unp rfl (gs_cons (g_name 7 nd) (gs_cons (g_name 8 nd) (gs_cons (g_name 9 nd) (gs_nil)))))) (ss_cons (s_set 10 nd (d_if (t_feq hr (d_var 2) (d_int)) (d_tup (a_cons (d_var 7) (a_cons (d_neg (d_var 8)) (a_nil)))) (d_tup (a_cons (d_var 7) (a_cons (d_var 8) (a_nil)))))) (ss_one (s_ret (d_call (ok_quotient_place T) (hr.mono (by decide)) hgd (a_cons (d_call (ok_plus T) (hr.mono (by decide)) hgd (a_cons (d_call (ok_times T) (hr.mono (by decide)) hgd (a_cons (d_var 3) (a_cons (d_var 10) (a_nil)))) (a_cons (d_call (ok_scaled T) (hr.mono (by decide)) hgd (a_cons (d_var 4) (a_cons (d_var 9) (a_nil)))) (a_nil)))) (a_cons (d_call (ok_plus T) (hr.mono (by decide)) hgd (a_cons (d_call (ok_times T) (hr.mono (by decide)) hgd (a_cons (d_var 5) (a_cons (d_var 10) (a_nil)))) (a_cons (d_call (ok_scaled T) (hr.mono (by decide)) hgd (a_cons (d_var 6) (a_cons (d_var 9) (a_nil)))) (a_nil)))) (a_nil))))))))
theorem ok_inner (T : Tx K mg) : Ok P w K mg base 1 "inner" ["number", "other"] sm_inner := by
  refine ok_def (N := ["number", "other"]) T.d_inner sc_inner (fun _ _ _ _ _ _ us hl => match us, hl with | [_, _], _ => rfl) (fun _ _ _ _ _ _ us hl => match us, hl with | [_, _], _ => rfl) fun f cdv A fs s H E hr hgd => ?_
  have nd := sc_inner.nd
  exact ss_one (s_ret (f_add (f_mul (f_ix (d_var 0) (d_int)) (f_ix (d_var 1) (d_int))) (f_mul (f_ix (d_var 0) (d_int)) (f_ix (d_var 1) (d_int)))))
theorem ok_led_row (T : Tx K mg) : Ok P w K mg base 2 "led_row" ["chart", "row"] sm_led_row := by
  refine ok_def (N := ["chart", "row", "is_mirrored", "a", "b", "c", "d", "q", "l", "m", "k", "number", "first", "last", "cross"]) T.d_led_row sc_led_row (fun _ _ _ _ _ _ us hl => match us, hl with | [_, _], _ => rfl) (fun _ _ _ _ _ _ us hl => match us, hl with | [_, _], _ => rfl) fun f cdv A fs s H E hr hgd => ?_
  have nd := sc_led_row.nd
  exact ss_cons (s_asg (d_var 0) (g_unp rfl (gs_cons (g_name 2 nd) (gs_cons (g_name 3 nd) (gs_cons (g_name 4 nd) (gs_cons (g_name 5 nd) (gs_cons (g_name 6 nd) (gs_nil)))))))) (ss_cons (s_asg (d_var 1) (g_unp rfl (gs_cons (g_name 7 nd) (gs_cons (g_name 8 nd) (gs_cons (g_name 9 nd) (gs_cons (g_name 10 nd) (gs_nil))))))) (ss_cons (s_set 11 nd (d_if (t_feq hr (d_var 2) (d_int)) (d_tup (a_cons (d_var 8) (a_cons (d_neg (d_var 9)) (a_nil)))) (d_tup (a_cons (d_var 8) (a_cons (d_var 9) (a_nil)))))) (ss_cons (s_set 12 nd (f_sub (f_add (f_mul (f_mul (d_int) (d_var 7)) (d_call (ok_inner T) (hr.mono (by decide)) hgd (a_cons (d_var 6) (a_cons (d_var 6) (a_nil))))) (f_mul (f_mul (d_int) (d_var 10)) (d_call (ok_inner T) (hr.mono (by decide)) hgd (a_cons (d_var 5) (a_cons (d_var 5) (a_nil)))))) (f_mul (d_int) (f_ix (d_call (ok_times T) (hr.mono (by decide)) hgd (a_cons (d_call (ok_times T) (hr.mono (by decide)) hgd (a_cons (d_call (ok_turned_over T) (hr.mono (by decide)) hgd (a_cons (d_var 6) (a_nil))) (a_cons (d_var 11) (a_nil)))) (a_cons (d_var 5) (a_nil)))) (d_int))))) (ss_cons (s_set 13 nd (f_sub (f_add (f_mul (f_mul (d_int) (d_var 7)) (d_call (ok_inner T) (hr.mono (by decide)) hgd (a_cons (d_var 4) (a_cons (d_var 4) (a_nil))))) (f_mul (f_mul (d_int) (d_var 10)) (d_call (ok_inner T) (hr.mono (by decide)) hgd (a_cons (d_var 3) (a_cons (d_var 3) (a_nil)))))) (f_mul (d_int) (f_ix (d_call (ok_times T) (hr.mono (by decide)) hgd (a_cons (d_call (ok_times T) (hr.mono (by decide)) hgd (a_cons (d_call (ok_turned_over T) (hr.mono (by decide)) hgd (a_cons (d_var 4) (a_nil))) (a_cons (d_var 11) (a_nil)))) (a_cons (d_var 3) (a_nil)))) (d_int))))) (ss_cons (s_set 14 nd (d_call (ok_plus T) (hr.mono (by decide)) hgd (a_cons (d_call (ok_scaled T) (hr.mono (by decide)) hgd (a_cons (d_call (ok_times T) (hr.mono (by decide)) hgd (a_cons (d_call (ok_turned_over T) (hr.mono (by decide)) hgd (a_cons (d_var 6) (a_nil))) (a_cons (d_var 4) (a_nil)))) (a_cons (f_mul (d_neg (d_int)) (d_var 7)) (a_nil)))) (a_cons (d_call (ok_scaled T) (hr.mono (by decide)) hgd (a_cons (d_call (ok_times T) (hr.mono (by decide)) hgd (a_cons (d_call (ok_turned_over T) (hr.mono (by decide)) hgd (a_cons (d_var 5) (a_nil))) (a_cons (d_var 3) (a_nil)))) (a_cons (f_mul (d_neg (d_int)) (d_var 10)) (a_nil)))) (a_nil))))) (ss_cons (s_set 14 nd (d_call (ok_plus T) (hr.mono (by decide)) hgd (a_cons (d_var 14) (a_cons (d_call (ok_times T) (hr.mono (by decide)) hgd (a_cons (d_call (ok_times T) (hr.mono (by decide)) hgd (a_cons (d_call (ok_turned_over T) (hr.mono (by decide)) hgd (a_cons (d_var 6) (a_nil))) (a_cons (d_var 11) (a_nil)))) (a_cons (d_var 3) (a_nil)))) (a_nil))))) (ss_cons (s_set 14 nd (d_call (ok_plus T) (hr.mono (by decide)) hgd (a_cons (d_var 14) (a_cons (d_call (ok_times T) (hr.mono (by decide)) hgd (a_cons (d_call (ok_times T) (hr.mono (by decide)) hgd (a_cons (d_call (ok_turned_over T) (hr.mono (by decide)) hgd (a_cons (d_var 5) (a_nil))) (a_cons (d_call (ok_turned_over T) (hr.mono (by decide)) hgd (a_cons (d_var 11) (a_nil))) (a_nil)))) (a_cons (d_var 4) (a_nil)))) (a_nil))))) (ss_one (s_ret (d_tup (a_cons (d_var 12) (a_cons (f_mul (d_int) (f_ix (d_var 14) (d_int))) (a_cons (f_mul (d_int) (f_ix (d_var 14) (d_int))) (a_cons (d_var 13) (a_nil)))))))))))))))
theorem ok_joined (T : Tx K mg) : Ok P w K mg base 5 "joined" ["chart", "other"] sm_joined := by
  refine ok_def (N := ["chart", "other", "numbers", "number", "a", "b", "c", "d", "found"]) T.d_joined sc_joined (fun _ _ _ _ _ _ us hl => match us, hl with | [_, _], _ => rfl) (fun _ _ _ _ _ _ us hl => match us, hl with | [_, _], _ => rfl) fun f cdv A fs s H E hr hgd => ?_
  have nd := sc_joined.nd
  exact ss_cons (s_set 2 nd (d_if (t_feq hr (f_ix (d_var 0) (d_int)) (d_int)) (g_tolist T.z_list (a_cons (g_slice (d_var 1) (p_some (d_int)) p_none) (a_nil))) (d_lc [("number", 3)] rfl nd (g_seq (g_slice (d_var 1) (p_some (d_int)) p_none)) (cg_name) (fun _ _ _ _ _ => pg_name (i := 3) nd rfl (by first | exact Or.inl rfl | exact Or.inr rfl)) (fun _ _ _ _ _ => ts_nil) (fun _ _ _ _ _ => d_call (ok_turned_over T) (hr.mono (by decide)) hgd (a_cons (d_var 3) (a_nil))) (ok := blkOk_by (N := ["chart", "other", "numbers", "number", "a", "b", "c", "d", "found"]) (sc := defScope st_joined) (by decide +kernel))))) (ss_cons (s_asg (g_slice (d_var 0) (p_some (d_int)) p_none) (g_unp rfl (gs_cons (g_name 4 nd) (gs_cons (g_name 5 nd) (gs_cons (g_name 6 nd) (gs_cons (g_name 7 nd) (gs_nil))))))) (ss_cons (s_set 8 nd (d_tup (a_cons (d_call (ok_plus T) (hr.mono (by decide)) hgd (a_cons (d_call (ok_times T) (hr.mono (by decide)) hgd (a_cons (d_var 4) (a_cons (f_ix (d_var 2) (d_int)) (a_nil)))) (a_cons (d_call (ok_times T) (hr.mono (by decide)) hgd (a_cons (d_var 5) (a_cons (f_ix (d_var 2) (d_int)) (a_nil)))) (a_nil)))) (a_cons (d_call (ok_plus T) (hr.mono (by decide)) hgd (a_cons (d_call (ok_times T) (hr.mono (by decide)) hgd (a_cons (d_var 4) (a_cons (f_ix (d_var 2) (d_int)) (a_nil)))) (a_cons (d_call (ok_times T) (hr.mono (by decide)) hgd (a_cons (d_var 5) (a_cons (f_ix (d_var 2) (d_int)) (a_nil)))) (a_nil)))) (a_cons (d_call (ok_plus T) (hr.mono (by decide)) hgd (a_cons (d_call (ok_times T) (hr.mono (by decide)) hgd (a_cons (d_var 6) (a_cons (f_ix (d_var 2) (d_int)) (a_nil)))) (a_cons (d_call (ok_times T) (hr.mono (by decide)) hgd (a_cons (d_var 7) (a_cons (f_ix (d_var 2) (d_int)) (a_nil)))) (a_nil)))) (a_cons (d_call (ok_plus T) (hr.mono (by decide)) hgd (a_cons (d_call (ok_times T) (hr.mono (by decide)) hgd (a_cons (d_var 6) (a_cons (f_ix (d_var 2) (d_int)) (a_nil)))) (a_cons (d_call (ok_times T) (hr.mono (by decide)) hgd (a_cons (d_var 7) (a_cons (f_ix (d_var 2) (d_int)) (a_nil)))) (a_nil)))) (a_nil))))))) (ss_one (s_ret (d_call (ok_form_of T) (hr.mono (by decide)) hgd (a_cons (f_mod (f_add (f_ix (d_var 0) (d_int)) (f_ix (d_var 1) (d_int))) (d_int)) (a_cons (d_var 8) (a_nil))))))))
theorem ok_way_back (T : Tx K mg) : Ok P w K mg base 5 "way_back" ["chart"] sm_way_back := by
  refine ok_def (N := ["chart", "is_mirrored", "a", "b", "c", "d", "numbers", "number"]) T.d_way_back sc_way_back (fun _ _ _ _ _ _ us hl => match us, hl with | [_], _ => rfl) (fun _ _ _ _ _ _ us hl => match us, hl with | [_], _ => rfl) fun f cdv A fs s H E hr hgd => ?_
  have nd := sc_way_back.nd
  exact ss_cons (s_asg (d_var 0) (g_unp rfl (gs_cons (g_name 1 nd) (gs_cons (g_name 2 nd) (gs_cons (g_name 3 nd) (gs_cons (g_name 4 nd) (gs_cons (g_name 5 nd) (gs_nil)))))))) (ss_cons (s_set 6 nd (d_lst (a_cons (d_var 5) (a_cons (d_call (ok_scaled T) (hr.mono (by decide)) hgd (a_cons (d_var 3) (a_cons (d_neg (d_int)) (a_nil)))) (a_cons (d_call (ok_scaled T) (hr.mono (by decide)) hgd (a_cons (d_var 4) (a_cons (d_neg (d_int)) (a_nil)))) (a_cons (d_var 2) (a_nil))))))) (ss_cons (s_if (t_feq hr (d_var 1) (d_int)) (ss_one (s_setLc 6 [("number", 7)] rfl nd (g_seq (d_var 6)) (cg_name) (fun _ _ _ _ _ => pg_name (i := 7) nd rfl (by first | exact Or.inl rfl | exact Or.inr rfl)) (fun _ _ _ _ _ => ts_nil) (fun _ _ _ _ _ => d_call (ok_turned_over T) (hr.mono (by decide)) hgd (a_cons (d_var 7) (a_nil))) (ok := blkOk_by (N := ["chart", "is_mirrored", "a", "b", "c", "d", "numbers", "number"]) (sc := defScope st_way_back) (by decide +kernel)) (sw_true rfl rfl rfl (by decide +kernel)))) (ss_nil)) (ss_one (s_ret (d_call (ok_form_of T) (hr.mono (by decide)) hgd (a_cons (d_var 1) (a_cons (d_var 6) (a_nil))))))))
theorem ok_mirror_of (T : Tx K mg) : Ok P w K mg base 5 "mirror_of" ["row"] sm_mirror_of := by
  refine ok_def (N := ["row", "q", "l", "m", "k"]) T.d_mirror_of sc_mirror_of (fun _ _ _ _ _ _ us hl => match us, hl with | [_], _ => rfl) (fun _ _ _ _ _ _ us hl => match us, hl with | [_], _ => rfl) fun f cdv A fs s H E hr hgd => ?_
  have nd := sc_mirror_of.nd
  exact ss_cons (s_asg (d_var 0) (g_unp rfl (gs_cons (g_name 1 nd) (gs_cons (g_name 2 nd) (gs_cons (g_name 3 nd) (gs_cons (g_name 4 nd) (gs_nil))))))) (ss_one (s_ret (d_call (ok_form_of T) (hr.mono (by decide)) hgd (a_cons (d_int) (a_cons (d_lst (a_cons (d_tup (a_cons (d_neg (d_var 2)) (a_cons (d_neg (d_var 3)) (a_nil)))) (a_cons (d_tup (a_cons (f_mul (d_neg (d_int)) (d_var 4)) (a_cons (d_int) (a_nil)))) (a_cons (d_tup (a_cons (f_mul (d_int) (d_var 1)) (a_cons (d_int) (a_nil)))) (a_cons (d_tup (a_cons (d_var 2) (a_cons (d_neg (d_var 3)) (a_nil)))) (a_nil)))))) (a_nil))))))
theorem ok_led_place (T : Tx K mg) : OkX P w K mg base 7 "led_place" ["chart", "place"] se_led_place := by
  refine ok_defX (N := ["chart", "place"]) T.d_led_place sc_led_place (fun _ _ _ _ _ _ us hl => match us, hl with | [_, _], _ => rfl) (fun _ _ _ _ _ _ us hl => match us, hl with | [_, _], _ => rfl) fun f cdv A fs s H E hr hgd c r W tk lk => ?_
  have nd := sc_led_place.nd
  exact ssx_cons (sx_expr (x_call (ok_check_map T) (hr.mono (by decide)) hgd tk lk (a_cons (d_var 0) (a_nil)))) (ssx_cons (sx_expr (x_call (ok_check_place T) (hr.mono (by decide)) hgd tk lk (a_cons (d_var 1) (a_nil)))) (ssx_one (sx_of (s_ret (d_call (ok_led_by T) (hr.mono (by decide)) hgd (a_cons (d_var 0) (a_cons (d_var 1) (a_nil))))))))
theorem ok_led_round (T : Tx K mg) : OkX P w K mg base 7 "led_round" ["chart", "circle"] se_led_round := by
  refine ok_defX (N := ["chart", "circle"]) T.d_led_round sc_led_round (fun _ _ _ _ _ _ us hl => match us, hl with | [_, _], _ => rfl) (fun _ _ _ _ _ _ us hl => match us, hl with | [_, _], _ => rfl) fun f cdv A fs s H E hr hgd c r W tk lk => ?_
  have nd := sc_led_round.nd
  exact ssx_cons (sx_expr (x_call (ok_check_map T) (hr.mono (by decide)) hgd tk lk (a_cons (d_var 0) (a_nil)))) (ssx_cons (sx_expr (x_call (ok_check_round T) (hr.mono (by decide)) hgd tk lk (a_cons (d_var 1) (a_nil)))) (ssx_one (sx_of (s_ret (d_call (ok_first_above T) (hr.mono (by decide)) hgd (a_cons (d_call (ok_led_row T) (hr.mono (by decide)) hgd (a_cons (d_var 0) (a_cons (d_var 1) (a_nil)))) (a_nil)))))))
theorem ok_after (T : Tx K mg) : OkX P w K mg base 7 "after" ["chart", "other"] se_after := by
  refine ok_defX (N := ["chart", "other"]) T.d_after sc_after (fun _ _ _ _ _ _ us hl => match us, hl with | [_, _], _ => rfl) (fun _ _ _ _ _ _ us hl => match us, hl with | [_, _], _ => rfl) fun f cdv A fs s H E hr hgd c r W tk lk => ?_
  have nd := sc_after.nd
  exact ssx_cons (sx_expr (x_call (ok_check_map T) (hr.mono (by decide)) hgd tk lk (a_cons (d_var 0) (a_nil)))) (ssx_cons (sx_expr (x_call (ok_check_map T) (hr.mono (by decide)) hgd tk lk (a_cons (d_var 1) (a_nil)))) (ssx_one (sx_of (s_ret (d_call (ok_joined T) (hr.mono (by decide)) hgd (a_cons (d_var 0) (a_cons (d_var 1) (a_nil))))))))
theorem ok_back (T : Tx K mg) : OkX P w K mg base 7 "back" ["chart"] se_back := by
  refine ok_defX (N := ["chart"]) T.d_back sc_back (fun _ _ _ _ _ _ us hl => match us, hl with | [_], _ => rfl) (fun _ _ _ _ _ _ us hl => match us, hl with | [_], _ => rfl) fun f cdv A fs s H E hr hgd c r W tk lk => ?_
  have nd := sc_back.nd
  exact ssx_cons (sx_expr (x_call (ok_check_map T) (hr.mono (by decide)) hgd tk lk (a_cons (d_var 0) (a_nil)))) (ssx_one (sx_of (s_ret (d_call (ok_way_back T) (hr.mono (by decide)) hgd (a_cons (d_var 0) (a_nil))))))
theorem ok_mirror_in (T : Tx K mg) : OkX P w K mg base 6 "mirror_in" ["circle"] se_mirror_in := by
  refine ok_defX (N := ["circle"]) T.d_mirror_in sc_mirror_in (fun _ _ _ _ _ _ us hl => match us, hl with | [_], _ => rfl) (fun _ _ _ _ _ _ us hl => match us, hl with | [_], _ => rfl) fun f cdv A fs s H E hr hgd c r W tk lk => ?_
  have nd := sc_mirror_in.nd
  exact ssx_cons (sx_expr (x_call (ok_check_round T) (hr.mono (by decide)) hgd tk lk (a_cons (d_var 0) (a_nil)))) (ssx_one (sx_of (s_ret (d_call (ok_mirror_of T) (hr.mono (by decide)) hgd (a_cons (d_var 0) (a_nil))))))
theorem ok_is_straight (T : Tx K mg) : OkX P w K mg base 8 "is_straight" ["chart", "circle"] se_is_straight := by
  refine ok_defX (N := ["chart", "circle"]) T.d_is_straight sc_is_straight (fun _ _ _ _ _ _ us hl => match us, hl with | [_, _], _ => rfl) (fun _ _ _ _ _ _ us hl => match us, hl with | [_, _], _ => rfl) fun f cdv A fs s H E hr hgd c r W tk lk => ?_
  have nd := sc_is_straight.nd
  exact ssx_one (sx_ret (x_feq hr (x_ix (x_call (ok_led_round T) (hr.mono (by decide)) hgd tk lk (a_cons (d_var 0) (a_cons (d_var 1) (a_nil)))) (x_of (d_int))) (x_of (d_int))))
theorem ok_check_triple (T : Tx K mg) : OkX P w K mg base 4 "check_triple" ["value"] se_check_triple := by
  obtain ⟨C_InvalidTriple, fI_InvalidTriple, x_InvalidTriple⟩ := T.x1_InvalidTriple
  refine ok_defX (N := ["value", "index", "place"]) T.d_check_triple sc_check_triple (fun _ _ _ _ _ _ us hl => match us, hl with | [_], _ => rfl) (fun _ _ _ _ _ _ us hl => match us, hl with | [_], _ => rfl) fun f cdv A fs s H E hr hgd c r W tk lk => ?_
  have nd := sc_check_triple.nd
  exact ssx_cons (sx_if (d_tnot (d_tst (d_isi .tuple (d_var 0) T.z_isinstance T.z_tuple))) (ssx_one (sx_raise1 x_InvalidTriple rfl hr tk lk (d_non))) (ssx_of (ss_nil))) (ssx_cons (sx_forI (L2.passes_of rfl) rfl (i_enum T.z_enumerate (d_var 0)) (g_unp rfl (gs_cons (g_name 1 nd) (gs_cons (g_name 2 nd) (gs_nil)))) (ssx_one (sx_if ((d_wor (t_feq hr (d_var 1) (d_gc T.c_MANY)) (d_wor (d_tnot (d_tst (d_call (ok_is_place T) (hr.mono (by decide)) hgd (a_cons (d_var 2) (a_nil))))) (d_w1o (t_finS hr (d_var 2) (g_slice (d_var 0) p_none (p_some (d_var 1))))))).pt) (ssx_one (sx_raise1 x_InvalidTriple rfl hr tk lk (d_var 1))) (ssx_of (ss_nil))))) (ssx_one (sx_if (t_flt (g_len T.z_len (a_cons (d_var 0) (a_nil))) (d_gc T.c_MANY)) (ssx_one (sx_raise1 x_InvalidTriple rfl hr tk lk (g_len T.z_len (a_cons (d_var 0) (a_nil))))) (ssx_of (ss_nil)))))
theorem ok_apart (T : Tx K mg) : Ok P w K mg base 2 "apart" ["place", "other"] sm_apart := by
  refine ok_def (N := ["place", "other"]) T.d_apart sc_apart (fun _ _ _ _ _ _ us hl => match us, hl with | [_, _], _ => rfl) (fun _ _ _ _ _ _ us hl => match us, hl with | [_, _], _ => rfl) fun f cdv A fs s H E hr hgd => ?_
  have nd := sc_apart.nd
  exact ss_one (s_ret (d_call (ok_minus T) (hr.mono (by decide)) hgd (a_cons (d_call (ok_scaled T) (hr.mono (by decide)) hgd (a_cons (g_slice (d_var 0) p_none (p_some (d_int))) (a_cons (f_ix (d_var 1) (d_int)) (a_nil)))) (a_cons (d_call (ok_scaled T) (hr.mono (by decide)) hgd (a_cons (g_slice (d_var 1) p_none (p_some (d_int))) (a_cons (f_ix (d_var 0) (d_int)) (a_nil)))) (a_nil)))))
theorem ok_chart_to_three (T : Tx K mg) : Ok P w K mg base 5 "chart_to_three" ["places"] sm_chart_to_three := by
  refine ok_def (N := ["places", "first", "second", "third", "one", "two", "numbers"]) T.d_chart_to_three sc_chart_to_three (fun _ _ _ _ _ _ us hl => match us, hl with | [_], _ => rfl) (fun _ _ _ _ _ _ us hl => match us, hl with | [_], _ => rfl) fun f cdv A fs s H E hr hgd => ?_
  have nd := sc_chart_to_three.nd
  exact ss_cons (s_asg (d_var 0) (g_unp rfl (gs_cons (g_name 1 nd) (gs_cons (g_name 2 nd) (gs_cons (g_name 3 nd) (gs_nil)))))) (ss_cons (s_par 4 5 rfl nd (a_cons (d_call (ok_apart T) (hr.mono (by decide)) hgd (a_cons (d_var 3) (a_cons (d_var 2) (a_nil)))) (a_cons (d_call (ok_apart T) (hr.mono (by decide)) hgd (a_cons (d_var 3) (a_cons (d_var 1) (a_nil)))) (a_nil)))) (ss_cons (s_set 6 nd (d_lst (a_cons (d_call (ok_scaled T) (hr.mono (by decide)) hgd (a_cons (d_var 4) (a_cons (f_ix (d_var 1) (d_int)) (a_nil)))) (a_cons (d_call (ok_times T) (hr.mono (by decide)) hgd (a_cons (d_var 4) (a_cons (d_tup (a_cons (d_neg (f_ix (d_var 1) (d_int))) (a_cons (d_neg (f_ix (d_var 1) (d_int))) (a_nil)))) (a_nil)))) (a_cons (d_call (ok_scaled T) (hr.mono (by decide)) hgd (a_cons (d_var 5) (a_cons (f_ix (d_var 2) (d_int)) (a_nil)))) (a_cons (d_call (ok_times T) (hr.mono (by decide)) hgd (a_cons (d_var 5) (a_cons (d_tup (a_cons (d_neg (f_ix (d_var 2) (d_int))) (a_cons (d_neg (f_ix (d_var 2) (d_int))) (a_nil)))) (a_nil)))) (a_nil))))))) (ss_one (s_ret (d_call (ok_form_of T) (hr.mono (by decide)) hgd (a_cons (d_int) (a_cons (d_var 6) (a_nil))))))))
theorem ok_plain_through (T : Tx K mg) : OkX P w K mg base 6 "plain_through" ["sources", "goals"] se_plain_through := by
  refine ok_defX (N := ["sources", "goals"]) T.d_plain_through sc_plain_through (fun _ _ _ _ _ _ us hl => match us, hl with | [_, _], _ => rfl) (fun _ _ _ _ _ _ us hl => match us, hl with | [_, _], _ => rfl) fun f cdv A fs s H E hr hgd c r W tk lk => ?_
  have nd := sc_plain_through.nd
  exact ssx_cons (sx_expr (x_call (ok_check_triple T) (hr.mono (by decide)) hgd tk lk (a_cons (d_var 0) (a_nil)))) (ssx_cons (sx_expr (x_call (ok_check_triple T) (hr.mono (by decide)) hgd tk lk (a_cons (d_var 1) (a_nil)))) (ssx_one (sx_of (s_ret (d_call (ok_joined T) (hr.mono (by decide)) hgd (a_cons (d_call (ok_way_back T) (hr.mono (by decide)) hgd (a_cons (d_call (ok_chart_to_three T) (hr.mono (by decide)) hgd (a_cons (d_var 1) (a_nil))) (a_nil))) (a_cons (d_call (ok_chart_to_three T) (hr.mono (by decide)) hgd (a_cons (d_var 0) (a_nil))) (a_nil))))))))
theorem ok_mirrored_through (T : Tx K mg) : OkX P w K mg base 6 "mirrored_through" ["sources", "goals"] se_mirrored_through := by
  refine ok_defX (N := ["sources", "goals", "images", "place", "found"]) T.d_mirrored_through sc_mirrored_through (fun _ _ _ _ _ _ us hl => match us, hl with | [_, _], _ => rfl) (fun _ _ _ _ _ _ us hl => match us, hl with | [_, _], _ => rfl) fun f cdv A fs s H E hr hgd c r W tk lk => ?_
  have nd := sc_mirrored_through.nd
  exact ssx_cons (sx_expr (x_call (ok_check_triple T) (hr.mono (by decide)) hgd tk lk (a_cons (d_var 0) (a_nil)))) (ssx_cons (sx_expr (x_call (ok_check_triple T) (hr.mono (by decide)) hgd tk lk (a_cons (d_var 1) (a_nil)))) (ssx_cons (sx_of (s_setLc 2 [("place", 3)] rfl nd (g_seq (d_var 0)) (cg_name) (fun _ _ _ _ _ => pg_name (i := 3) nd rfl (by first | exact Or.inl rfl | exact Or.inr rfl)) (fun _ _ _ _ _ => ts_nil) (fun _ _ _ _ _ => d_tup (a_cons (f_ix (d_var 3) (d_int)) (a_cons (d_neg (f_ix (d_var 3) (d_int))) (a_cons (f_ix (d_var 3) (d_int)) (a_nil))))) (ok := blkOk_by (N := ["sources", "goals", "images", "place", "found"]) (sc := defScope st_mirrored_through) (by decide +kernel)) (sw_true rfl rfl rfl (by decide +kernel)))) (ssx_cons (sx_of (s_set 4 nd (d_call (ok_joined T) (hr.mono (by decide)) hgd (a_cons (d_call (ok_way_back T) (hr.mono (by decide)) hgd (a_cons (d_call (ok_chart_to_three T) (hr.mono (by decide)) hgd (a_cons (d_var 1) (a_nil))) (a_nil))) (a_cons (d_call (ok_chart_to_three T) (hr.mono (by decide)) hgd (a_cons (d_var 2) (a_nil))) (a_nil)))))) (ssx_one (sx_of (s_ret (d_tup (a_cons (d_int) (a_star (g_slice (d_var 4) (p_some (d_int)) p_none) (a_nil))))))))))
theorem ok_four_ratio (T : Tx K mg) : Ok P w K mg base 4 "four_ratio" ["first", "second", "third", "fourth"] sm_four_ratio := by
  refine ok_def (N := ["first", "second", "third", "fourth", "above"]) T.d_four_ratio sc_four_ratio (fun _ _ _ _ _ _ us hl => match us, hl with | [_, _, _, _], _ => rfl) (fun _ _ _ _ _ _ us hl => match us, hl with | [_, _, _, _], _ => rfl) fun f cdv A fs s H E hr hgd => ?_
  have nd := sc_four_ratio.nd
  exact ss_cons (s_set 4 nd (d_call (ok_times T) (hr.mono (by decide)) hgd (a_cons (d_call (ok_apart T) (hr.mono (by decide)) hgd (a_cons (d_var 0) (a_cons (d_var 2) (a_nil)))) (a_cons (d_call (ok_apart T) (hr.mono (by decide)) hgd (a_cons (d_var 1) (a_cons (d_var 3) (a_nil)))) (a_nil))))) (ss_one (s_ret (d_call (ok_quotient_place T) (hr.mono (by decide)) hgd (a_cons (d_var 4) (a_cons (d_call (ok_times T) (hr.mono (by decide)) hgd (a_cons (d_call (ok_apart T) (hr.mono (by decide)) hgd (a_cons (d_var 1) (a_cons (d_var 2) (a_nil)))) (a_cons (d_call (ok_apart T) (hr.mono (by decide)) hgd (a_cons (d_var 0) (a_cons (d_var 3) (a_nil)))) (a_nil)))) (a_nil))))))
theorem ok_ratio_of_four (T : Tx K mg) : OkX P w K mg base 6 "ratio_of_four" ["first", "second", "third", "fourth"] se_ratio_of_four := by
  refine ok_defX (N := ["first", "second", "third", "fourth"]) T.d_ratio_of_four sc_ratio_of_four (fun _ _ _ _ _ _ us hl => match us, hl with | [_, _, _, _], _ => rfl) (fun _ _ _ _ _ _ us hl => match us, hl with | [_, _, _, _], _ => rfl) fun f cdv A fs s H E hr hgd c r W tk lk => ?_
  have nd := sc_ratio_of_four.nd
  exact ssx_cons (sx_expr (x_call (ok_check_apart T) (hr.mono (by decide)) hgd tk lk (a_cons (d_tup (a_cons (d_var 0) (a_cons (d_var 1) (a_cons (d_var 2) (a_cons (d_var 3) (a_nil)))))) (a_nil)))) (ssx_one (sx_of (s_ret (d_call (ok_four_ratio T) (hr.mono (by decide)) hgd (a_cons (d_var 0) (a_cons (d_var 1) (a_cons (d_var 2) (a_cons (d_var 3) (a_nil)))))))))
theorem ok_on_one_round (T : Tx K mg) : OkX P w K mg base 7 "on_one_round" ["first", "second", "third", "fourth"] se_on_one_round := by
  refine ok_defX (N := ["first", "second", "third", "fourth"]) T.d_on_one_round sc_on_one_round (fun _ _ _ _ _ _ us hl => match us, hl with | [_, _, _, _], _ => rfl) (fun _ _ _ _ _ _ us hl => match us, hl with | [_, _, _, _], _ => rfl) fun f cdv A fs s H E hr hgd c r W tk lk => ?_
  have nd := sc_on_one_round.nd
  exact ssx_one (sx_ret (x_feq hr (x_ix (x_call (ok_ratio_of_four T) (hr.mono (by decide)) hgd tk lk (a_cons (d_var 0) (a_cons (d_var 1) (a_cons (d_var 2) (a_cons (d_var 3) (a_nil)))))) (x_of (d_int))) (x_of (d_int))))
theorem ok__law_tank (T : Tx K mg) : OkO P w K mg base 1 "_law_tank" ["_law_script", "_law_spot"] sm__law_tank := by
  refine ok_defO (N := ["_law_script", "_law_spot", "_law_stir", "_law_cell", "_law_own", "_law_rest"]) T.d__law_tank sc__law_tank (fun _ _ _ _ _ _ us hl => match us, hl with | [_, _], _ => rfl) fun f cdv A fs s H E hr hgd => ?_
  have nd := sc__law_tank.nd
  exact so_cons (s_set 2 nd (f_add (d_int) (f_mul (d_int) (d_var 1)))) (so_cons (s_forI PassesOwn.never rfl (g_seq (g_slice (d_var 0) p_none (p_some (d_int)))) (g_name 3 nd) (ss_one (s_set 2 nd (f_mod (g_toint T.z_int (a_cons (f_add (f_add (f_mul (d_var 2) (d_int)) (f_mod (g_toint T.z_int (a_cons (d_var 3) (a_nil))) (d_int))) (d_int)) (a_nil))) (d_int))))) (so_cons (s_set 4 nd (d_if (t_flt (d_var 1) (g_len T.z_len (a_cons (d_var 0) (a_nil)))) (g_toint T.z_int (a_cons (f_ix (d_var 0) (d_var 1)) (a_nil))) (d_var 2))) (so_cons (s_set 5 nd (d_if ((d_wor (t_flt (d_var 4) (d_int)) (d_w1o (t_fge (d_var 4) (f_pow (d_int) (d_int))))).pt) (g_abs T.z_abs (a_cons (d_var 4) (a_nil))) (d_int))) (so_ret (a_cons (d_var 5) (a_cons (f_mod (g_toint T.z_int (a_cons (f_add (f_add (f_mul (d_var 2) (d_int)) (f_mul (f_mod (g_toint T.z_int (a_cons (d_var 4) (a_nil))) (d_int)) (d_int))) (d_int)) (a_nil))) (d_int)) (a_cons (d_int) (a_nil))))))))
theorem ok__law_draw (T : Tx K mg) : Ok P w K mg base 1 "_law_draw" ["_law_tank_here", "_law_many"] sm__law_draw := by
  refine ok_def (N := ["_law_tank_here", "_law_many", "_law_figure", "_law_pace"]) T.d__law_draw sc__law_draw (fun _ _ _ _ _ _ us hl => match us, hl with | [_, _], _ => rfl) (fun _ _ _ _ _ _ us hl => match us, hl with | [_, _], _ => rfl) fun f cdv A fs s H E hr hgd => ?_
  have nd := sc__law_draw.nd
  exact ss_cons (s_if (t_fgt (d_tix 0 (d_int)) (d_int)) (ss_cons (s_asg (g_divmod T.z_divmod (a_cons (d_tix 0 (d_int)) (a_cons (d_var 1) (a_nil)))) (g_unp rfl (gs_cons (g_tset 0 (d_int)) (gs_cons (g_name 2 nd) (gs_nil))))) (ss_one (s_ret (d_var 2)))) (ss_nil)) (ss_cons (s_asg (f_add (d_tix 0 (d_int)) (d_int)) (g_tset 0 (d_int))) (ss_cons (s_set 3 nd (f_add (f_mod (g_toint T.z_int (a_cons (d_tix 0 (d_int)) (a_nil))) (d_int)) (d_int))) (ss_cons (s_asg (f_mod (g_toint T.z_int (a_cons (f_add (f_add (f_mul (d_tix 0 (d_int)) (d_var 3)) (f_mul (d_int) (d_tix 0 (d_int)))) (d_int)) (a_nil))) (d_int)) (g_tset 0 (d_int))) (ss_one (s_ret (f_mod (g_toint T.z_int (a_cons (f_div (d_tix 0 (d_int)) (d_int)) (a_nil))) (d_var 1)))))))
theorem ok__law_pick (T : Tx K mg) : Ok P w K mg base 2 "_law_pick" ["_law_tank_here", "_law_some"] sm__law_pick := by
  refine ok_def (N := ["_law_tank_here", "_law_some"]) T.d__law_pick sc__law_pick (fun _ _ _ _ _ _ us hl => match us, hl with | [_, _], _ => rfl) (fun _ _ _ _ _ _ us hl => match us, hl with | [_, _], _ => rfl) fun f cdv A fs s H E hr hgd => ?_
  have nd := sc__law_pick.nd
  exact ss_one (s_ret (f_ix (d_var 1) (d_call (ok__law_draw T) (hr.mono (by decide)) hgd (a_tank 0 (a_cons (g_len T.z_len (a_cons (d_var 1) (a_nil))) (a_nil))))))
theorem ok__law_rounds (T : Tx K mg) : Ok P w K mg base 1 "_law_rounds" ["_law_script"] sm__law_rounds := by
  refine ok_def (N := ["_law_script"]) T.d__law_rounds sc__law_rounds (fun _ _ _ _ _ _ us hl => match us, hl with | [_], _ => rfl) (fun _ _ _ _ _ _ us hl => match us, hl with | [_], _ => rfl) fun f cdv A fs s H E hr hgd => ?_
  have nd := sc__law_rounds.nd
  exact ss_one (s_ret (g_max2 rfl T.z_max (a_cons (d_int) (a_cons (g_min2 rfl T.z_min (a_cons (g_len T.z_len (a_cons (d_var 0) (a_nil))) (a_cons (d_int) (a_nil)))) (a_nil)))))
theorem ok__law_number (T : Tx K mg) : Ok P w K mg base 3 "_law_number" ["_law_tank_here"] sm__law_number := by
  refine ok_def (N := ["_law_tank_here", "_law_size_here"]) T.d__law_number sc__law_number (fun _ _ _ _ _ _ us hl => match us, hl with | [_], _ => rfl) (fun _ _ _ _ _ _ us hl => match us, hl with | [_], _ => rfl) fun f cdv A fs s H E hr hgd => ?_
  have nd := sc__law_number.nd
  exact ss_cons (s_set 1 nd (d_call (ok__law_pick T) (hr.mono (by decide)) hgd (a_tank 0 (a_cons (d_tup (a_cons (d_int) (a_cons (d_int) (a_cons (d_int) (a_cons (d_int) (a_cons (d_int) (a_cons (d_int) (a_cons (d_int) (a_nil))))))))) (a_nil))))) (ss_cons (s_if (t_fgt (d_var 1) (d_int)) (ss_one (s_ret (f_sub (d_call (ok__law_draw T) (hr.mono (by decide)) hgd (a_tank 0 (a_cons (f_add (f_mul (d_int) (d_var 1)) (d_int)) (a_nil)))) (d_var 1)))) (ss_nil)) (ss_one (s_ret (f_mul (f_add (f_mul (d_call (ok__law_draw T) (hr.mono (by decide)) hgd (a_tank 0 (a_cons (d_int) (a_nil)))) (d_int)) (d_call (ok__law_draw T) (hr.mono (by decide)) hgd (a_tank 0 (a_cons (d_int) (a_nil))))) (f_sub (d_int) (f_mul (d_int) (d_call (ok__law_draw T) (hr.mono (by decide)) hgd (a_tank 0 (a_cons (d_int) (a_nil))))))))))
theorem ok__law_small (T : Tx K mg) : Ok P w K mg base 3 "_law_small" ["_law_tank_here"] sm__law_small := by
  refine ok_def (N := ["_law_tank_here", "_law_size_here"]) T.d__law_small sc__law_small (fun _ _ _ _ _ _ us hl => match us, hl with | [_], _ => rfl) (fun _ _ _ _ _ _ us hl => match us, hl with | [_], _ => rfl) fun f cdv A fs s H E hr hgd => ?_
  have nd := sc__law_small.nd
  exact ss_cons (s_set 1 nd (d_call (ok__law_pick T) (hr.mono (by decide)) hgd (a_tank 0 (a_cons (d_tup (a_cons (d_int) (a_cons (d_int) (a_cons (d_int) (a_cons (d_int) (a_cons (d_int) (a_nil))))))) (a_nil))))) (ss_one (s_ret (f_sub (d_call (ok__law_draw T) (hr.mono (by decide)) hgd (a_tank 0 (a_cons (f_add (f_mul (d_int) (d_var 1)) (d_int)) (a_nil)))) (d_var 1))))
theorem ok__law_least (T : Tx K mg) : Ok P w K mg base 1 "_law_least" ["_law_numbers"] sm__law_least := by
  refine ok_def (N := ["_law_numbers", "_law_part", "_law_number_here", "_law_left", "_law_right_here"]) T.d__law_least sc__law_least (fun _ _ _ _ _ _ us hl => match us, hl with | [_], _ => rfl) (fun _ _ _ _ _ _ us hl => match us, hl with | [_], _ => rfl) fun f cdv A fs s H E hr hgd => ?_
  have nd := sc__law_least.nd
  exact ss_cons (s_set 1 nd (d_int)) (ss_cons (s_forI PassesOwn.never rfl (g_seq (d_var 0)) (g_name 2 nd) (ss_cons (s_par 3 4 rfl nd (a_cons (d_var 1) (a_cons (g_abs T.z_abs (a_cons (d_var 2) (a_nil))) (a_nil)))) (ss_cons (s_while PassesOwn.never (t_fgt (d_var 4) (d_int)) (ss_one (s_par 3 4 rfl nd (a_cons (d_var 4) (a_cons (f_mod (g_toint T.z_int (a_cons (d_var 3) (a_nil))) (d_var 4)) (a_nil)))))) (ss_one (s_set 1 nd (d_var 3)))))) (ss_one (s_ret (g_totup T.z_tuple (a_cons (d_lc [("_law_number_here", 2)] rfl nd (g_seq (d_var 0)) (cg_name) (fun _ _ _ _ _ => pg_name (i := 2) nd rfl (by first | exact Or.inl rfl | exact Or.inr rfl)) (fun _ _ _ _ _ => ts_nil) (fun _ _ _ _ _ => f_div (d_var 2) (d_var 1)) (ok := blkOk_by (N := ["_law_numbers", "_law_part", "_law_number_here", "_law_left", "_law_right_here"]) (sc := defScope st__law_least) (by decide +kernel))) (a_nil))))))
theorem ok__law_less (T : Tx K mg) : Ok P w K mg base 1 "_law_less" ["_law_one", "_law_two"] sm__law_less := by
  refine ok_def (N := ["_law_one", "_law_two"]) T.d__law_less sc__law_less (fun _ _ _ _ _ _ us hl => match us, hl with | [_, _], _ => rfl) (fun _ _ _ _ _ _ us hl => match us, hl with | [_, _], _ => rfl) fun f cdv A fs s H E hr hgd => ?_
  have nd := sc__law_less.nd
  exact ss_one (s_ret (d_tup (a_cons (f_sub (f_ix (d_var 0) (d_int)) (f_ix (d_var 1) (d_int))) (a_cons (f_sub (f_ix (d_var 0) (d_int)) (f_ix (d_var 1) (d_int))) (a_nil)))))
theorem ok__law_times (T : Tx K mg) : Ok P w K mg base 1 "_law_times" ["_law_one", "_law_two"] sm__law_times := by
  refine ok_def (N := ["_law_one", "_law_two"]) T.d__law_times sc__law_times (fun _ _ _ _ _ _ us hl => match us, hl with | [_, _], _ => rfl) (fun _ _ _ _ _ _ us hl => match us, hl with | [_, _], _ => rfl) fun f cdv A fs s H E hr hgd => ?_
  have nd := sc__law_times.nd
  exact ss_one (s_ret (d_tup (a_cons (f_sub (f_mul (f_ix (d_var 0) (d_int)) (f_ix (d_var 1) (d_int))) (f_mul (f_ix (d_var 0) (d_int)) (f_ix (d_var 1) (d_int)))) (a_cons (f_add (f_mul (f_ix (d_var 0) (d_int)) (f_ix (d_var 1) (d_int))) (f_mul (f_ix (d_var 0) (d_int)) (f_ix (d_var 1) (d_int)))) (a_nil)))))
theorem ok__law_star (T : Tx K mg) : Ok P w K mg base 1 "_law_star" ["_law_one"] sm__law_star := by
  refine ok_def (N := ["_law_one"]) T.d__law_star sc__law_star (fun _ _ _ _ _ _ us hl => match us, hl with | [_], _ => rfl) (fun _ _ _ _ _ _ us hl => match us, hl with | [_], _ => rfl) fun f cdv A fs s H E hr hgd => ?_
  have nd := sc__law_star.nd
  exact ss_one (s_ret (d_tup (a_cons (f_ix (d_var 0) (d_int)) (a_cons (f_sub (d_int) (f_ix (d_var 0) (d_int))) (a_nil)))))
theorem ok__law_size (T : Tx K mg) : Ok P w K mg base 1 "_law_size" ["_law_one"] sm__law_size := by
  refine ok_def (N := ["_law_one"]) T.d__law_size sc__law_size (fun _ _ _ _ _ _ us hl => match us, hl with | [_], _ => rfl) (fun _ _ _ _ _ _ us hl => match us, hl with | [_], _ => rfl) fun f cdv A fs s H E hr hgd => ?_
  have nd := sc__law_size.nd
  exact ss_one (s_ret (f_add (f_mul (f_ix (d_var 0) (d_int)) (f_ix (d_var 0) (d_int))) (f_mul (f_ix (d_var 0) (d_int)) (f_ix (d_var 0) (d_int)))))
theorem ok__law_quarter (T : Tx K mg) : Ok P w K mg base 1 "_law_quarter" ["_law_one"] sm__law_quarter := by
  refine ok_def (N := ["_law_one", "_law_a", "_law_b", "_law_turn"]) T.d__law_quarter sc__law_quarter (fun _ _ _ _ _ _ us hl => match us, hl with | [_], _ => rfl) (fun _ _ _ _ _ _ us hl => match us, hl with | [_], _ => rfl) fun f cdv A fs s H E hr hgd => ?_
  have nd := sc__law_quarter.nd
  exact ss_cons (s_asg (d_var 0) (g_unp rfl (gs_cons (g_name 1 nd) (gs_cons (g_name 2 nd) (gs_nil))))) (ss_cons (s_forI PassesOwn.never rfl (i_range1 T.z_range (a_cons (d_int) (a_nil))) (g_name 3 nd) (ss_cons (s_if ((d_wand (t_fgt (d_var 1) (d_int)) (d_w1a (t_fge (d_var 2) (d_int)))).pt) (ss_one (s_ret (d_tup (a_cons (d_var 1) (a_cons (d_var 2) (a_nil)))))) (ss_nil)) (ss_one (s_par 1 2 rfl nd (a_cons (f_sub (d_int) (d_var 2)) (a_cons (d_var 1) (a_nil))))))) (ss_one (s_ret (d_tup (a_cons (d_int) (a_cons (d_int) (a_nil)))))))
theorem ok__law_over (T : Tx K mg) : Ok P w K mg base 2 "_law_over" ["_law_one", "_law_two"] sm__law_over := by
  refine ok_def (N := ["_law_one", "_law_two", "_law_size_here", "_law_a", "_law_b"]) T.d__law_over sc__law_over (fun _ _ _ _ _ _ us hl => match us, hl with | [_, _], _ => rfl) (fun _ _ _ _ _ _ us hl => match us, hl with | [_, _], _ => rfl) fun f cdv A fs s H E hr hgd => ?_
  have nd := sc__law_over.nd
  exact ss_cons (s_set 2 nd (d_call (ok__law_size T) (hr.mono (by decide)) hgd (a_cons (d_var 1) (a_nil)))) (ss_cons (s_if (t_feq hr (d_var 2) (d_int)) (ss_one (s_ret (d_non))) (ss_nil)) (ss_cons (s_asg (d_call (ok__law_times T) (hr.mono (by decide)) hgd (a_cons (d_var 0) (a_cons (d_call (ok__law_star T) (hr.mono (by decide)) hgd (a_cons (d_var 1) (a_nil))) (a_nil)))) (g_unp rfl (gs_cons (g_name 3 nd) (gs_cons (g_name 4 nd) (gs_nil))))) (ss_one (s_ret (d_if ((d_wand (t_feq hr (f_mod (g_toint T.z_int (a_cons (d_var 3) (a_nil))) (d_var 2)) (d_int)) (d_w1a (t_feq hr (f_mod (g_toint T.z_int (a_cons (d_var 4) (a_nil))) (d_var 2)) (d_int)))).pt) (d_tup (a_cons (f_div (d_var 3) (d_var 2)) (a_cons (f_div (d_var 4) (d_var 2)) (a_nil)))) (d_non))))))
theorem ok__law_common (T : Tx K mg) : Ok P w K mg base 2 "_law_common" ["_law_numbers"] sm__law_common := by
  refine ok_def (N := ["_law_numbers", "_law_found", "_law_number_here", "_law_one", "_law_two", "_law_turn", "_law_size_here", "_law_a", "_law_b", "_law_near_here"]) T.d__law_common sc__law_common (fun _ _ _ _ _ _ us hl => match us, hl with | [_], _ => rfl) (fun _ _ _ _ _ _ us hl => match us, hl with | [_], _ => rfl) fun f cdv A fs s H E hr hgd => ?_
  have nd := sc__law_common.nd
  exact ss_cons (s_set 1 nd (d_tup (a_cons (d_int) (a_cons (d_int) (a_nil))))) (ss_cons (s_forI PassesOwn.never rfl (g_seq (d_var 0)) (g_name 2 nd) (ss_cons (s_par 3 4 rfl nd (a_cons (d_var 1) (a_cons (d_var 2) (a_nil)))) (ss_cons (s_forI PassesOwn.never rfl (i_range1 T.z_range (a_cons (d_int) (a_nil))) (g_name 5 nd) (ss_cons (s_set 6 nd (d_call (ok__law_size T) (hr.mono (by decide)) hgd (a_cons (d_var 4) (a_nil)))) (ss_cons (s_if (t_feq hr (d_var 6) (d_int)) (ss_one (s_break)) (ss_nil)) (ss_cons (s_asg (d_call (ok__law_times T) (hr.mono (by decide)) hgd (a_cons (d_var 3) (a_cons (d_call (ok__law_star T) (hr.mono (by decide)) hgd (a_cons (d_var 4) (a_nil))) (a_nil)))) (g_unp rfl (gs_cons (g_name 7 nd) (gs_cons (g_name 8 nd) (gs_nil))))) (ss_cons (s_set 9 nd (d_tup (a_cons (f_div (f_add (f_mul (d_int) (d_var 7)) (d_var 6)) (f_mul (d_int) (d_var 6))) (a_cons (f_div (f_add (f_mul (d_int) (d_var 8)) (d_var 6)) (f_mul (d_int) (d_var 6))) (a_nil))))) (ss_one (s_par 3 4 rfl nd (a_cons (d_var 4) (a_cons (d_call (ok__law_less T) (hr.mono (by decide)) hgd (a_cons (d_var 3) (a_cons (d_call (ok__law_times T) (hr.mono (by decide)) hgd (a_cons (d_var 9) (a_cons (d_var 4) (a_nil)))) (a_nil)))) (a_nil)))))))))) (ss_one (s_set 1 nd (d_var 3)))))) (ss_one (s_ret (d_var 1))))
theorem ok__law_form (T : Tx K mg) : Ok P w K mg base 2 "_law_form" ["_law_row_here"] sm__law_form := by
  refine ok_def (N := ["_law_row_here", "_law_number_here"]) T.d__law_form sc__law_form (fun _ _ _ _ _ _ us hl => match us, hl with | [_], _ => rfl) (fun _ _ _ _ _ _ us hl => match us, hl with | [_], _ => rfl) fun f cdv A fs s H E hr hgd => ?_
  have nd := sc__law_form.nd
  exact ss_cons (s_set 0 nd (d_call (ok__law_least T) (hr.mono (by decide)) hgd (a_cons (d_var 0) (a_nil)))) (ss_one (s_ret (d_if (t_fgt (f_ix (d_lc [("_law_number_here", 1)] rfl nd (g_seq (d_var 0)) (cg_name) (fun _ _ _ _ _ => pg_name (i := 1) nd rfl (by first | exact Or.inl rfl | exact Or.inr rfl)) (fun _ _ _ _ _ => ts_one (t_fne hr (d_var 1) (d_int))) (fun _ _ _ _ _ => d_var 1) (ok := blkOk_by (N := ["_law_row_here", "_law_number_here"]) (sc := defScope st__law_form) (by decide +kernel))) (d_int)) (d_int)) (d_var 0) (g_totup T.z_tuple (a_cons (d_lc [("_law_number_here", 1)] rfl nd (g_seq (d_var 0)) (cg_name) (fun _ _ _ _ _ => pg_name (i := 1) nd rfl (by first | exact Or.inl rfl | exact Or.inr rfl)) (fun _ _ _ _ _ => ts_nil) (fun _ _ _ _ _ => f_sub (d_int) (d_var 1)) (ok := blkOk_by (N := ["_law_row_here", "_law_number_here"]) (sc := defScope st__law_form) (by decide +kernel))) (a_nil))))))
theorem ok__law_near (T : Tx K mg) : Ok P w K mg base 4 "_law_near" ["_law_tank_here"] sm__law_near := by
  refine ok_def (N := ["_law_tank_here"]) T.d__law_near sc__law_near (fun _ _ _ _ _ _ us hl => match us, hl with | [_], _ => rfl) (fun _ _ _ _ _ _ us hl => match us, hl with | [_], _ => rfl) fun f cdv A fs s H E hr hgd => ?_
  have nd := sc__law_near.nd
  exact ss_one (s_ret (d_call (ok__law_least T) (hr.mono (by decide)) hgd (a_cons (d_tup (a_cons (d_call (ok__law_small T) (hr.mono (by decide)) hgd (a_tank 0 (a_nil))) (a_cons (d_call (ok__law_small T) (hr.mono (by decide)) hgd (a_tank 0 (a_nil))) (a_cons (f_add (d_int) (d_call (ok__law_draw T) (hr.mono (by decide)) hgd (a_tank 0 (a_cons (d_call (ok__law_pick T) (hr.mono (by decide)) hgd (a_tank 0 (a_cons (d_tup (a_cons (d_int) (a_cons (d_int) (a_cons (d_int) (a_cons (d_int) (a_nil)))))) (a_nil)))) (a_nil))))) (a_nil))))) (a_nil))))
theorem ok__law_row (T : Tx K mg) : Ok P w K mg base 4 "_law_row" ["_law_tank_here"] sm__law_row := by
  refine ok_def (N := ["_law_tank_here", "_law_q", "_law_l", "_law_m", "_law_k", "_law_way"]) T.d__law_row sc__law_row (fun _ _ _ _ _ _ us hl => match us, hl with | [_], _ => rfl) (fun _ _ _ _ _ _ us hl => match us, hl with | [_], _ => rfl) fun f cdv A fs s H E hr hgd => ?_
  have nd := sc__law_row.nd
  exact ss_cons (s_asg (d_tup (a_cons (d_call (ok__law_small T) (hr.mono (by decide)) hgd (a_tank 0 (a_nil))) (a_cons (d_call (ok__law_small T) (hr.mono (by decide)) hgd (a_tank 0 (a_nil))) (a_cons (d_call (ok__law_small T) (hr.mono (by decide)) hgd (a_tank 0 (a_nil))) (a_cons (d_call (ok__law_small T) (hr.mono (by decide)) hgd (a_tank 0 (a_nil))) (a_nil)))))) (g_unp rfl (gs_cons (g_name 1 nd) (gs_cons (g_name 2 nd) (gs_cons (g_name 3 nd) (gs_cons (g_name 4 nd) (gs_nil))))))) (ss_cons (s_set 5 nd (d_call (ok__law_draw T) (hr.mono (by decide)) hgd (a_tank 0 (a_cons (d_int) (a_nil))))) (ss_cons (s_if (t_feq hr (d_var 5) (d_int)) (ss_one (s_par 1 4 rfl nd (a_cons (d_int) (a_cons (d_call (ok__law_number T) (hr.mono (by decide)) hgd (a_tank 0 (a_nil))) (a_nil))))) (ss_nil)) (ss_cons (s_if (t_feq hr (d_var 5) (d_int)) (ss_one (s_par3 2 3 4 rfl nd (a_cons (d_call (ok__law_number T) (hr.mono (by decide)) hgd (a_tank 0 (a_nil))) (a_cons (d_call (ok__law_number T) (hr.mono (by decide)) hgd (a_tank 0 (a_nil))) (a_cons (d_call (ok__law_number T) (hr.mono (by decide)) hgd (a_tank 0 (a_nil))) (a_nil)))))) (ss_nil)) (ss_cons (s_if (t_fle (f_add (f_mul (d_var 2) (d_var 2)) (f_mul (d_var 3) (d_var 3))) (f_mul (f_mul (d_int) (d_var 1)) (d_var 4))) (ss_one (s_set 4 nd (f_sub (d_int) (d_var 4)))) (ss_nil)) (ss_cons (s_if (t_fle (f_add (f_mul (d_var 2) (d_var 2)) (f_mul (d_var 3) (d_var 3))) (f_mul (f_mul (d_int) (d_var 1)) (d_var 4))) (ss_one (s_set 2 nd (d_int))) (ss_nil)) (ss_one (s_ret (d_call (ok__law_least T) (hr.mono (by decide)) hgd (a_cons (d_tup (a_cons (d_var 1) (a_cons (d_var 2) (a_cons (d_var 3) (a_cons (d_var 4) (a_nil)))))) (a_nil))))))))))
theorem ok__law_any_place (T : Tx K mg) : Ok P w K mg base 5 "_law_any_place" ["_law_tank_here"] sm__law_any_place := by
  refine ok_def (N := ["_law_tank_here"]) T.d__law_any_place sc__law_any_place (fun _ _ _ _ _ _ us hl => match us, hl with | [_], _ => rfl) (fun _ _ _ _ _ _ us hl => match us, hl with | [_], _ => rfl) fun f cdv A fs s H E hr hgd => ?_
  have nd := sc__law_any_place.nd
  exact ss_one (s_ret (d_if (t_feq hr (d_call (ok__law_draw T) (hr.mono (by decide)) hgd (a_tank 0 (a_cons (d_int) (a_nil)))) (d_int)) (d_tup (a_cons (d_int) (a_cons (d_int) (a_cons (d_int) (a_nil))))) (d_call (ok__law_near T) (hr.mono (by decide)) hgd (a_tank 0 (a_nil)))))
theorem ok__law_unlike (T : Tx K mg) : Ok P w K mg base 6 "_law_unlike" ["_law_tank_here", "_law_many"] sm__law_unlike := by
  refine ok_def (N := ["_law_tank_here", "_law_many", "_law_found", "_law_turn", "_law_here", "_law_step"]) T.d__law_unlike sc__law_unlike (fun _ _ _ _ _ _ us hl => match us, hl with | [_, _], _ => rfl) (fun _ _ _ _ _ _ us hl => match us, hl with | [_, _], _ => rfl) fun f cdv A fs s H E hr hgd => ?_
  have nd := sc__law_unlike.nd
  exact ss_cons (s_own 2 nd (a_nil)) (ss_cons (s_forI PassesOwn.never rfl (i_range1 T.z_range (a_cons (d_var 1) (a_nil))) (g_name 3 nd) (ss_cons (s_set 4 nd (d_call (ok__law_any_place T) (hr.mono (by decide)) hgd (a_tank 0 (a_nil)))) (ss_cons (s_forI PassesOwn.never rfl (i_range1 T.z_range (a_cons (d_var 1) (a_nil))) (g_name 5 nd) (ss_one (s_if (t_view 2 (t_finS hr (d_var 4) (d_var 2))) (ss_one (s_set 4 nd (d_call (ok__law_least T) (hr.mono (by decide)) hgd (a_cons (d_tup (a_cons (f_add (f_add (f_mul (d_int) (d_var 3)) (d_var 5)) (d_int)) (a_cons (f_sub (d_var 5) (d_var 3)) (a_cons (f_add (d_int) (d_var 3)) (a_nil))))) (a_nil))))) (ss_nil)))) (ss_one (s_app 2 (d_var 4)))))) (ss_one (s_frq 2 (s_ret (d_var 2)))))
theorem ok__law_little (T : Tx K mg) : Ok P w K mg base 4 "_law_little" ["_law_tank_here"] sm__law_little := by
  refine ok_def (N := ["_law_tank_here"]) T.d__law_little sc__law_little (fun _ _ _ _ _ _ us hl => match us, hl with | [_], _ => rfl) (fun _ _ _ _ _ _ us hl => match us, hl with | [_], _ => rfl) fun f cdv A fs s H E hr hgd => ?_
  have nd := sc__law_little.nd
  exact ss_one (s_ret (d_tup (a_cons (d_call (ok__law_small T) (hr.mono (by decide)) hgd (a_tank 0 (a_nil))) (a_cons (d_call (ok__law_small T) (hr.mono (by decide)) hgd (a_tank 0 (a_nil))) (a_nil)))))
theorem ok__law_map (T : Tx K mg) : Ok P w K mg base 3 "_law_map" ["_law_flag", "_law_numbers"] sm__law_map := by
  refine ok_def (N := ["_law_flag", "_law_numbers", "_law_part", "_law_rest", "_law_each", "_law_first", "_law_unit"]) T.d__law_map sc__law_map (fun _ _ _ _ _ _ us hl => match us, hl with | [_, _], _ => rfl) (fun _ _ _ _ _ _ us hl => match us, hl with | [_, _], _ => rfl) fun f cdv A fs s H E hr hgd => ?_
  have nd := sc__law_map.nd
  exact ss_cons (s_set 2 nd (d_call (ok__law_common T) (hr.mono (by decide)) hgd (a_cons (d_var 1) (a_nil)))) (ss_cons (s_setLc 3 [("_law_each", 4)] rfl nd (g_seq (d_var 1)) (cg_name) (fun _ _ _ _ _ => pg_name (i := 4) nd rfl (by first | exact Or.inl rfl | exact Or.inr rfl)) (fun _ _ _ _ _ => ts_nil) (fun _ _ _ _ _ => d_call (ok__law_over T) (hr.mono (by decide)) hgd (a_cons (d_var 4) (a_cons (d_var 2) (a_nil)))) (ok := blkOk_by (N := ["_law_flag", "_law_numbers", "_law_part", "_law_rest", "_law_each", "_law_first", "_law_unit"]) (sc := defScope st__law_map) (by decide +kernel)) (sw_true rfl rfl rfl (by decide +kernel))) (ss_cons (s_set 5 nd (f_ix (d_lc [("_law_each", 4)] rfl nd (g_seq (d_var 3)) (cg_name) (fun _ _ _ _ _ => pg_name (i := 4) nd rfl (by first | exact Or.inl rfl | exact Or.inr rfl)) (fun _ _ _ _ _ => ts_one (t_fne hr (d_var 4) (d_tup (a_cons (d_int) (a_cons (d_int) (a_nil)))))) (fun _ _ _ _ _ => d_var 4) (ok := blkOk_by (N := ["_law_flag", "_law_numbers", "_law_part", "_law_rest", "_law_each", "_law_first", "_law_unit"]) (sc := defScope st__law_map) (by decide +kernel))) (d_int))) (ss_cons (s_set 6 nd (d_call (ok__law_over T) (hr.mono (by decide)) hgd (a_cons (d_call (ok__law_quarter T) (hr.mono (by decide)) hgd (a_cons (d_var 5) (a_nil))) (a_cons (d_var 5) (a_nil))))) (ss_cons (s_setLc 3 [("_law_each", 4)] rfl nd (g_seq (d_var 3)) (cg_name) (fun _ _ _ _ _ => pg_name (i := 4) nd rfl (by first | exact Or.inl rfl | exact Or.inr rfl)) (fun _ _ _ _ _ => ts_nil) (fun _ _ _ _ _ => d_call (ok__law_times T) (hr.mono (by decide)) hgd (a_cons (d_var 4) (a_cons (d_var 6) (a_nil)))) (ok := blkOk_by (N := ["_law_flag", "_law_numbers", "_law_part", "_law_rest", "_law_each", "_law_first", "_law_unit"]) (sc := defScope st__law_map) (by decide +kernel)) (sw_true rfl rfl rfl (by decide +kernel))) (ss_one (s_ret (d_tup (a_cons (d_var 0) (a_cons (f_ix (d_var 3) (d_int)) (a_cons (f_ix (d_var 3) (d_int)) (a_cons (f_ix (d_var 3) (d_int)) (a_cons (f_ix (d_var 3) (d_int)) (a_nil)))))))))))))
theorem ok__law_det (T : Tx K mg) : Ok P w K mg base 2 "_law_det" ["_law_numbers"] sm__law_det := by
  refine ok_def (N := ["_law_numbers"]) T.d__law_det sc__law_det (fun _ _ _ _ _ _ us hl => match us, hl with | [_], _ => rfl) (fun _ _ _ _ _ _ us hl => match us, hl with | [_], _ => rfl) fun f cdv A fs s H E hr hgd => ?_
  have nd := sc__law_det.nd
  exact ss_one (s_ret (d_call (ok__law_less T) (hr.mono (by decide)) hgd (a_cons (d_call (ok__law_times T) (hr.mono (by decide)) hgd (a_cons (f_ix (d_var 0) (d_int)) (a_cons (f_ix (d_var 0) (d_int)) (a_nil)))) (a_cons (d_call (ok__law_times T) (hr.mono (by decide)) hgd (a_cons (f_ix (d_var 0) (d_int)) (a_cons (f_ix (d_var 0) (d_int)) (a_nil)))) (a_nil)))))
theorem ok__law_four (T : Tx K mg) : Ok P w K mg base 5 "_law_four" ["_law_tank_here"] sm__law_four := by
  refine ok_def (N := ["_law_tank_here", "_law_way", "_law_turn", "_law_found"]) T.d__law_four sc__law_four (fun _ _ _ _ _ _ us hl => match us, hl with | [_], _ => rfl) (fun _ _ _ _ _ _ us hl => match us, hl with | [_], _ => rfl) fun f cdv A fs s H E hr hgd => ?_
  have nd := sc__law_four.nd
  exact ss_cons (s_set 1 nd (d_call (ok__law_draw T) (hr.mono (by decide)) hgd (a_tank 0 (a_cons (d_int) (a_nil))))) (ss_cons (s_forI PassesOwn.never rfl (i_range1 T.z_range (a_cons (d_int) (a_nil))) (g_name 2 nd) (ss_cons (s_own 3 nd (a_cons (d_call (ok__law_little T) (hr.mono (by decide)) hgd (a_tank 0 (a_nil))) (a_cons (d_call (ok__law_little T) (hr.mono (by decide)) hgd (a_tank 0 (a_nil))) (a_cons (d_call (ok__law_little T) (hr.mono (by decide)) hgd (a_tank 0 (a_nil))) (a_cons (d_call (ok__law_little T) (hr.mono (by decide)) hgd (a_tank 0 (a_nil))) (a_nil)))))) (ss_cons (s_if (t_feq hr (d_var 1) (d_int)) (ss_one (s_asg (d_tup (a_cons (d_tup (a_cons (d_int) (a_cons (d_int) (a_nil)))) (a_cons (d_tup (a_cons (d_int) (a_cons (d_int) (a_nil)))) (a_cons (d_tup (a_cons (d_int) (a_cons (d_int) (a_nil)))) (a_nil))))) (g_unp rfl (gs_cons (g_oset 3 (d_int)) (gs_cons (g_oset 3 (d_int)) (gs_cons (g_oset 3 (d_int)) (gs_nil))))))) (ss_nil)) (ss_cons (s_if (t_feq hr (d_var 1) (d_int)) (ss_one (s_asg (d_tup (a_cons (d_tup (a_cons (d_int) (a_cons (d_int) (a_nil)))) (a_cons (d_tup (a_cons (d_int) (a_cons (d_int) (a_nil)))) (a_nil)))) (g_unp rfl (gs_cons (g_oset 3 (d_int)) (gs_cons (g_oset 3 (d_int)) (gs_nil)))))) (ss_nil)) (ss_cons (s_if (t_feq hr (d_var 1) (d_int)) (ss_one (s_asg (d_tup (a_cons (d_tup (a_cons (d_int) (a_cons (d_int) (a_nil)))) (a_cons (d_tup (a_cons (d_int) (a_cons (d_int) (a_nil)))) (a_nil)))) (g_unp rfl (gs_cons (g_oset 3 (d_int)) (gs_cons (g_oset 3 (d_int)) (gs_nil)))))) (ss_nil)) (ss_one (s_if (t_view 3 (t_fne hr (d_call (ok__law_det T) (hr.mono (by decide)) hgd (a_cons (d_var 3) (a_nil))) (d_tup (a_cons (d_int) (a_cons (d_int) (a_nil)))))) (ss_one (s_frq 3 (s_ret (d_var 3)))) (ss_nil)))))))) (ss_one (s_ret (d_lst (a_cons (d_tup (a_cons (d_int) (a_cons (d_int) (a_nil)))) (a_cons (d_tup (a_cons (d_int) (a_cons (d_int) (a_nil)))) (a_cons (d_tup (a_cons (d_int) (a_cons (d_int) (a_nil)))) (a_cons (d_tup (a_cons (d_int) (a_cons (d_int) (a_nil)))) (a_nil)))))))))
theorem ok__law_drawn_map (T : Tx K mg) : Ok P w K mg base 6 "_law_drawn_map" ["_law_tank_here"] sm__law_drawn_map := by
  refine ok_def (N := ["_law_tank_here"]) T.d__law_drawn_map sc__law_drawn_map (fun _ _ _ _ _ _ us hl => match us, hl with | [_], _ => rfl) (fun _ _ _ _ _ _ us hl => match us, hl with | [_], _ => rfl) fun f cdv A fs s H E hr hgd => ?_
  have nd := sc__law_drawn_map.nd
  exact ss_one (s_ret (d_call (ok__law_map T) (hr.mono (by decide)) hgd (a_cons (d_call (ok__law_draw T) (hr.mono (by decide)) hgd (a_tank 0 (a_cons (d_int) (a_nil)))) (a_cons (d_call (ok__law_four T) (hr.mono (by decide)) hgd (a_tank 0 (a_nil))) (a_nil)))))
theorem ok__law_run (T : Tx K mg) : OkX P w K mg base 9 "_law_run" ["_law_way", "_law_some"] se__law_run := by
  refine ok_defX (N := ["_law_way", "_law_some"]) T.d__law_run sc__law_run (fun _ _ _ _ _ _ us hl => match us, hl with | [_, _], _ => rfl) (fun _ _ _ _ _ _ us hl => match us, hl with | [_, _], _ => rfl) fun f cdv A fs s H E hr hgd c r W tk lk => ?_
  have nd := sc__law_run.nd
  exact ssx_cons (sx_if (t_feq hr (d_var 0) (d_str)) (ssx_one (sx_ret (x_call (ok_map_of T) (hr.mono (by decide)) hgd tk lk (a_cons (f_ix (d_var 1) (d_int)) (a_cons (f_ix (d_var 1) (d_int)) (a_cons (f_ix (d_var 1) (d_int)) (a_cons (f_ix (d_var 1) (d_int)) (a_cons (f_ix (d_var 1) (d_int)) (a_nil))))))))) (ssx_of (ss_nil))) (ssx_cons (sx_if (t_feq hr (d_var 0) (d_str)) (ssx_one (sx_ret (x_call (ok_led_place T) (hr.mono (by decide)) hgd tk lk (a_cons (f_ix (d_var 1) (d_int)) (a_cons (f_ix (d_var 1) (d_int)) (a_nil)))))) (ssx_of (ss_nil))) (ssx_cons (sx_if (t_feq hr (d_var 0) (d_str)) (ssx_one (sx_ret (x_call (ok_led_round T) (hr.mono (by decide)) hgd tk lk (a_cons (f_ix (d_var 1) (d_int)) (a_cons (f_ix (d_var 1) (d_int)) (a_nil)))))) (ssx_of (ss_nil))) (ssx_cons (sx_if (t_feq hr (d_var 0) (d_str)) (ssx_one (sx_ret (x_call (ok_is_straight T) (hr.mono (by decide)) hgd tk lk (a_cons (f_ix (d_var 1) (d_int)) (a_cons (f_ix (d_var 1) (d_int)) (a_nil)))))) (ssx_of (ss_nil))) (ssx_cons (sx_if (t_feq hr (d_var 0) (d_str)) (ssx_one (sx_ret (x_call (ok_after T) (hr.mono (by decide)) hgd tk lk (a_cons (f_ix (d_var 1) (d_int)) (a_cons (f_ix (d_var 1) (d_int)) (a_nil)))))) (ssx_of (ss_nil))) (ssx_cons (sx_if (t_feq hr (d_var 0) (d_str)) (ssx_one (sx_ret (x_call (ok_back T) (hr.mono (by decide)) hgd tk lk (a_cons (f_ix (d_var 1) (d_int)) (a_nil))))) (ssx_of (ss_nil))) (ssx_cons (sx_if (t_feq hr (d_var 0) (d_str)) (ssx_one (sx_ret (x_call (ok_mirror_in T) (hr.mono (by decide)) hgd tk lk (a_cons (f_ix (d_var 1) (d_int)) (a_nil))))) (ssx_of (ss_nil))) (ssx_cons (sx_if (t_feq hr (d_var 0) (d_str)) (ssx_one (sx_ret (x_call (ok_plain_through T) (hr.mono (by decide)) hgd tk lk (a_cons (f_ix (d_var 1) (d_int)) (a_cons (f_ix (d_var 1) (d_int)) (a_nil)))))) (ssx_of (ss_nil))) (ssx_cons (sx_if (t_feq hr (d_var 0) (d_str)) (ssx_one (sx_ret (x_call (ok_mirrored_through T) (hr.mono (by decide)) hgd tk lk (a_cons (f_ix (d_var 1) (d_int)) (a_cons (f_ix (d_var 1) (d_int)) (a_nil)))))) (ssx_of (ss_nil))) (ssx_cons (sx_if (t_feq hr (d_var 0) (d_str)) (ssx_one (sx_ret (x_call (ok_ratio_of_four T) (hr.mono (by decide)) hgd tk lk (a_cons (f_ix (d_var 1) (d_int)) (a_cons (f_ix (d_var 1) (d_int)) (a_cons (f_ix (d_var 1) (d_int)) (a_cons (f_ix (d_var 1) (d_int)) (a_nil)))))))) (ssx_of (ss_nil))) (ssx_one (sx_ret (x_call (ok_on_one_round T) (hr.mono (by decide)) hgd tk lk (a_cons (f_ix (d_var 1) (d_int)) (a_cons (f_ix (d_var 1) (d_int)) (a_cons (f_ix (d_var 1) (d_int)) (a_cons (f_ix (d_var 1) (d_int)) (a_nil)))))))))))))))))
theorem ok__law_met (T : Tx K mg) : Ok P w K mg base 10 "_law_met" ["_law_way", "_law_some"] sm__law_met := by
  obtain ⟨C_ArmError, x_ArmError⟩ := T.x_ArmError
  obtain ⟨D_InvalidNumbers, n_InvalidNumbers, i_InvalidNumbers⟩ := T.io_InvalidNumbers
  obtain ⟨D_InvalidRow, n_InvalidRow, i_InvalidRow⟩ := T.io_InvalidRow
  obtain ⟨D_NoMap, n_NoMap, i_NoMap⟩ := T.io_NoMap
  obtain ⟨D_InvalidTriple, n_InvalidTriple, i_InvalidTriple⟩ := T.io_InvalidTriple
  obtain ⟨D_Same, n_Same, i_Same⟩ := T.io_Same
  obtain ⟨D_InvalidRound, n_InvalidRound, i_InvalidRound⟩ := T.io_InvalidRound
  obtain ⟨D_InvalidPlace, n_InvalidPlace, i_InvalidPlace⟩ := T.io_InvalidPlace
  obtain ⟨D_InvalidMap, n_InvalidMap, i_InvalidMap⟩ := T.io_InvalidMap
  obtain ⟨D_InvalidComplex, n_InvalidComplex, i_InvalidComplex⟩ := T.io_InvalidComplex
  obtain ⟨D_InvalidFlag, n_InvalidFlag, i_InvalidFlag⟩ := T.io_InvalidFlag
  refine ok_def (N := ["_law_way", "_law_some", "e", "_law_sorts"]) T.d__law_met sc__law_met (fun _ _ _ _ _ _ us hl => match us, hl with | [_, _], _ => rfl) (fun _ _ _ _ _ _ us hl => match us, hl with | [_, _], _ => rfl) fun f cdv A fs s H E hr hgd => ?_
  have nd := sc__law_met.nd
  have hu := room66 hr
  exact ss_cons (s_tryA (i := 2) rfl rfl nd rfl rfl ⟨rfl, by decide, .inl x_ArmError.gC⟩ (T.m_ArmError _ x_ArmError.gC) (fun c r W pn xe tk lk => ssx_one (sx_expr (x_call (ok__law_run T) (hr.mono (by decide)) hgd tk lk (a_cons (d_var 0) (a_cons (d_var 1) (a_nil)))))) (fun e a oe cls d pn hz hf hm => ss_cons (s_set 3 nd (d_lst (a_cons (d_isO 2 n_InvalidFlag (i_InvalidFlag _ _ hm) hz hf T.z_isinstance) (a_cons (d_isO 2 n_InvalidComplex (i_InvalidComplex _ _ hm) hz hf T.z_isinstance) (a_cons (d_isO 2 n_InvalidMap (i_InvalidMap _ _ hm) hz hf T.z_isinstance) (a_cons (d_isO 2 n_InvalidPlace (i_InvalidPlace _ _ hm) hz hf T.z_isinstance) (a_cons (d_isO 2 n_InvalidRound (i_InvalidRound _ _ hm) hz hf T.z_isinstance) (a_cons (d_isO 2 n_Same (i_Same _ _ hm) hz hf T.z_isinstance) (a_cons (d_isO 2 n_InvalidTriple (i_InvalidTriple _ _ hm) hz hf T.z_isinstance) (a_cons (d_isO 2 n_NoMap (i_NoMap _ _ hm) hz hf T.z_isinstance) (a_cons (d_isO 2 n_InvalidRow (i_InvalidRow _ _ hm) hz hf T.z_isinstance) (a_cons (d_isO 2 n_InvalidNumbers (i_InvalidNumbers _ _ hm) hz hf T.z_isinstance) (a_nil))))))))))))) (ss_cons (s_if ((d_wor (t_fneU hu (d_cntT hu (d_var 3) (d_bl)) (d_int)) (d_wor (d_tnot (d_tst (d_isB 2 T.z_ValueError (T.ib_ValueError _ _ hm) hz hf T.z_isinstance))) (d_wor (d_tst (f_ix (d_var 3) (d_int))) (d_w1o (d_tst (f_ix (d_var 3) (d_int))))))).pt) (ss_one (s_ret (d_lst (a_cons (d_str) (a_cons (d_non) (a_nil)))))) (ss_nil)) (ss_cons (s_if (d_tst (f_ix (d_var 3) (d_int))) (ss_one (s_ret (d_lst (a_cons (d_str) (a_cons (d_giv 2 (T.g_index _ _ hm) hz hf) (a_nil)))))) (ss_nil)) (ss_cons (s_if (d_tst (f_ix (d_var 3) (d_int))) (ss_one (s_ret (d_lst (a_cons (d_str) (a_cons (d_non) (a_nil)))))) (ss_nil)) (ss_one (s_ret (d_lst (a_cons (f_ix (d_tup (a_cons (d_str) (a_cons (d_str) (a_cons (d_str) (a_cons (d_str) (a_cons (d_str) (a_cons (d_str) (a_nil)))))))) (d_idxT hu (d_var 3) (d_bl))) (a_cons (d_giv 2 (T.g_given _ _ hm) hz hf) (a_nil))))))))))) (ss_one (s_ret (d_lst (a_cons (d_str) (a_cons (d_non) (a_nil))))))
theorem ok__law_odd (T : Tx K mg) : Ok P w K mg base 3 "_law_odd" ["_law_tank_here"] sm__law_odd := by
  refine ok_def (N := ["_law_tank_here"]) T.d__law_odd sc__law_odd (fun _ _ _ _ _ _ us hl => match us, hl with | [_], _ => rfl) (fun _ _ _ _ _ _ us hl => match us, hl with | [_], _ => rfl) fun f cdv A fs s H E hr hgd => ?_
  have nd := sc__law_odd.nd
  exact ss_one (s_ret (d_call (ok__law_pick T) (hr.mono (by decide)) hgd (a_tank 0 (a_cons (d_tup (a_cons (d_non) (a_cons (d_str) (a_cons (d_int) (a_cons (d_neg (d_int)) (a_cons (d_bl) (a_cons (d_bl) (a_cons (d_tup (a_nil)) (a_cons (d_tup (a_cons (d_int) (a_nil))) (a_cons (d_tup (a_cons (d_int) (a_cons (d_non) (a_nil)))) (a_cons (d_lst (a_cons (d_int) (a_cons (d_int) (a_nil)))) (a_cons (d_tup (a_cons (d_bl) (a_cons (d_int) (a_nil)))) (a_cons (d_tup (a_cons (d_int) (a_cons (d_int) (a_cons (d_int) (a_nil))))) (a_cons (d_tup (a_cons (d_int) (a_cons (d_int) (a_cons (d_int) (a_nil))))) (a_cons (d_tup (a_cons (d_int) (a_cons (d_int) (a_cons (d_int) (a_nil))))) (a_cons (d_tup (a_cons (d_int) (a_cons (d_int) (a_cons (d_int) (a_cons (d_neg (d_int)) (a_nil)))))) (a_cons (d_tup (a_cons (d_neg (d_int)) (a_cons (d_int) (a_cons (d_int) (a_cons (d_int) (a_nil)))))) (a_cons (d_tup (a_cons (d_int) (a_cons (d_int) (a_cons (d_int) (a_cons (d_int) (a_nil)))))) (a_cons (d_tup (a_cons (d_int) (a_cons (d_tup (a_cons (d_int) (a_cons (d_int) (a_nil)))) (a_cons (d_tup (a_cons (d_int) (a_cons (d_int) (a_nil)))) (a_cons (d_tup (a_cons (d_int) (a_cons (d_int) (a_nil)))) (a_cons (d_tup (a_cons (d_int) (a_cons (d_int) (a_nil)))) (a_nil))))))) (a_cons (d_dct0) (a_cons (d_tup (a_cons (d_int) (a_cons (d_int) (a_cons (d_int) (a_cons (d_int) (a_cons (d_int) (a_nil))))))) (a_cons (d_tup (a_cons (d_int) (a_cons (d_tup (a_cons (d_int) (a_cons (d_int) (a_nil)))) (a_cons (d_tup (a_cons (d_int) (a_cons (d_int) (a_nil)))) (a_cons (d_tup (a_cons (d_int) (a_cons (d_int) (a_nil)))) (a_cons (d_tup (a_cons (d_int) (a_cons (d_int) (a_nil)))) (a_nil))))))) (a_cons (d_tup (a_cons (d_int) (a_cons (d_tup (a_cons (d_int) (a_cons (d_int) (a_nil)))) (a_cons (d_tup (a_cons (d_int) (a_cons (d_int) (a_nil)))) (a_cons (d_tup (a_cons (d_int) (a_cons (d_int) (a_nil)))) (a_cons (d_tup (a_cons (d_int) (a_cons (d_int) (a_nil)))) (a_nil))))))) (a_cons (d_lst (a_cons (d_int) (a_cons (d_int) (a_cons (d_int) (a_nil))))) (a_nil))))))))))))))))))))))))) (a_nil)))))
theorem ok__law_wrong_triple (T : Tx K mg) : Ok P w K mg base 7 "_law_wrong_triple" ["_law_tank_here"] sm__law_wrong_triple := by
  refine ok_def (N := ["_law_tank_here", "_law_row_here", "_law_at", "_law_odd_here", "_law_way"]) T.d__law_wrong_triple sc__law_wrong_triple (fun _ _ _ _ _ _ us hl => match us, hl with | [_], _ => rfl) (fun _ _ _ _ _ _ us hl => match us, hl with | [_], _ => rfl) fun f cdv A fs s H E hr hgd => ?_
  have nd := sc__law_wrong_triple.nd
  exact ss_cons (s_par3 1 2 3 rfl nd (a_cons (g_totup T.z_tuple (a_cons (d_call (ok__law_unlike T) (hr.mono (by decide)) hgd (a_tank 0 (a_cons (d_int) (a_nil)))) (a_nil))) (a_cons (d_call (ok__law_draw T) (hr.mono (by decide)) hgd (a_tank 0 (a_cons (d_int) (a_nil)))) (a_cons (d_call (ok__law_odd T) (hr.mono (by decide)) hgd (a_tank 0 (a_nil))) (a_nil))))) (ss_cons (s_set 4 nd (d_call (ok__law_draw T) (hr.mono (by decide)) hgd (a_tank 0 (a_cons (d_int) (a_nil))))) (ss_cons (s_if (t_feq hr (d_var 4) (d_int)) (ss_one (s_ret (d_tup (a_cons (d_call (ok__law_pick T) (hr.mono (by decide)) hgd (a_tank 0 (a_cons (d_tup (a_cons (g_tolist T.z_list (a_cons (d_var 1) (a_nil))) (a_cons (d_non) (a_cons (d_int) (a_cons (d_str) (a_cons (d_dct0) (a_nil))))))) (a_nil)))) (a_cons (d_non) (a_nil)))))) (ss_nil)) (ss_cons (s_if (t_feq hr (d_var 4) (d_int)) (ss_one (s_ret (d_tup (a_cons (f_add (d_var 1) (d_tup (a_cons (d_call (ok__law_pick T) (hr.mono (by decide)) hgd (a_tank 0 (a_cons (d_tup (a_cons (d_var 3) (a_cons (f_ix (d_var 1) (d_int)) (a_cons (d_tup (a_cons (d_int) (a_cons (d_int) (a_cons (d_int) (a_nil))))) (a_nil))))) (a_nil)))) (a_nil)))) (a_cons (d_int) (a_nil)))))) (ss_nil)) (ss_cons (s_if (t_feq hr (d_var 4) (d_int)) (ss_one (s_ret (d_tup (a_cons (g_slice (d_var 1) p_none (p_some (d_var 2))) (a_cons (d_var 2) (a_nil)))))) (ss_nil)) (ss_cons (s_if ((d_wand (t_feq hr (d_var 4) (d_int)) (d_w1a (t_fgt (d_var 2) (d_int)))).pt) (ss_one (s_ret (d_tup (a_cons (f_add (f_add (g_slice (d_var 1) p_none (p_some (d_var 2))) (d_tup (a_cons (f_ix (d_var 1) (d_call (ok__law_draw T) (hr.mono (by decide)) hgd (a_tank 0 (a_cons (d_var 2) (a_nil))))) (a_nil)))) (g_slice (d_var 1) (p_some (f_add (d_var 2) (d_int))) p_none)) (a_cons (d_var 2) (a_nil)))))) (ss_nil)) (ss_one (s_ret (d_tup (a_cons (f_add (f_add (g_slice (d_var 1) p_none (p_some (d_var 2))) (d_tup (a_cons (d_var 3) (a_nil)))) (d_call (ok__law_pick T) (hr.mono (by decide)) hgd (a_tank 0 (a_cons (d_tup (a_cons (g_slice (d_var 1) (p_some (f_add (d_var 2) (d_int))) p_none) (a_cons (d_tup (a_nil)) (a_cons (d_tup (a_cons (d_var 3) (a_nil))) (a_nil))))) (a_nil))))) (a_cons (d_var 2) (a_nil)))))))))))
theorem ok__law_map_cases (T : Tx K mg) : Ok P w K mg base 7 "_law_map_cases" ["_law_tank_here"] sm__law_map_cases := by
  refine ok_def (N := ["_law_tank_here", "_law_a", "_law_b", "_law_c", "_law_d", "_law_flag", "_law_odd_here", "_law_other", "_law_chart", "_law_place", "_law_circle", "_law_bad", "_law_found", "_law_way", "_law_word", "_law_right_here"]) T.d__law_map_cases sc__law_map_cases (fun _ _ _ _ _ _ us hl => match us, hl with | [_], _ => rfl) (fun _ _ _ _ _ _ us hl => match us, hl with | [_], _ => rfl) fun f cdv A fs s H E hr hgd => ?_
  have nd := sc__law_map_cases.nd
  exact ss_cons (s_asg (d_call (ok__law_four T) (hr.mono (by decide)) hgd (a_tank 0 (a_nil))) (g_unp rfl (gs_cons (g_name 1 nd) (gs_cons (g_name 2 nd) (gs_cons (g_name 3 nd) (gs_cons (g_name 4 nd) (gs_nil))))))) (ss_cons (s_asg (d_tup (a_cons (d_call (ok__law_draw T) (hr.mono (by decide)) hgd (a_tank 0 (a_cons (d_int) (a_nil)))) (a_cons (d_call (ok__law_odd T) (hr.mono (by decide)) hgd (a_tank 0 (a_nil))) (a_cons (d_call (ok__law_odd T) (hr.mono (by decide)) hgd (a_tank 0 (a_nil))) (a_cons (d_call (ok__law_drawn_map T) (hr.mono (by decide)) hgd (a_tank 0 (a_nil))) (a_nil)))))) (g_unp rfl (gs_cons (g_name 5 nd) (gs_cons (g_name 6 nd) (gs_cons (g_name 7 nd) (gs_cons (g_name 8 nd) (gs_nil))))))) (ss_cons (s_par3 9 10 11 rfl nd (a_cons (d_call (ok__law_any_place T) (hr.mono (by decide)) hgd (a_tank 0 (a_nil))) (a_cons (d_call (ok__law_form T) (hr.mono (by decide)) hgd (a_cons (d_call (ok__law_row T) (hr.mono (by decide)) hgd (a_tank 0 (a_nil))) (a_nil))) (a_cons (d_call (ok__law_pick T) (hr.mono (by decide)) hgd (a_tank 0 (a_cons (d_tup (a_cons (d_bl) (a_cons (d_bl) (a_cons (d_int) (a_cons (d_neg (d_int)) (a_cons (d_non) (a_cons (d_str) (a_cons (d_tup (a_cons (d_int) (a_nil))) (a_nil))))))))) (a_nil)))) (a_nil))))) (ss_cons (s_set 12 nd (d_lst (a_cons (d_tup (a_cons (d_str) (a_cons (d_tup (a_cons (d_var 5) (a_cons (d_var 1) (a_cons (d_var 2) (a_cons (d_var 1) (a_cons (d_var 2) (a_nil))))))) (a_cons (d_str) (a_cons (d_non) (a_nil)))))) (a_cons (d_tup (a_cons (d_str) (a_cons (d_tup (a_cons (d_var 11) (a_cons (d_var 6) (a_cons (d_var 2) (a_cons (d_var 3) (a_cons (d_var 4) (a_nil))))))) (a_cons (d_str) (a_cons (d_var 11) (a_nil)))))) (a_nil))))) (ss_cons (s_set 12 nd (f_add (d_var 12) (d_lst (a_cons (d_tup (a_cons (d_str) (a_cons (d_tup (a_cons (d_var 5) (a_cons (d_var 6) (a_cons (d_var 7) (a_cons (d_var 3) (a_cons (d_var 4) (a_nil))))))) (a_cons (d_str) (a_cons (d_var 6) (a_nil)))))) (a_cons (d_tup (a_cons (d_str) (a_cons (d_tup (a_cons (d_var 5) (a_cons (d_var 1) (a_cons (d_var 6) (a_cons (d_var 7) (a_cons (d_var 4) (a_nil))))))) (a_cons (d_str) (a_cons (d_var 6) (a_nil)))))) (a_nil)))))) (ss_cons (s_set 12 nd (f_add (d_var 12) (d_lst (a_cons (d_tup (a_cons (d_str) (a_cons (d_tup (a_cons (d_var 5) (a_cons (d_var 1) (a_cons (d_var 2) (a_cons (d_var 6) (a_cons (d_var 7) (a_nil))))))) (a_cons (d_str) (a_cons (d_var 6) (a_nil)))))) (a_cons (d_tup (a_cons (d_str) (a_cons (d_tup (a_cons (d_var 5) (a_cons (d_var 1) (a_cons (d_var 2) (a_cons (d_var 1) (a_cons (d_var 6) (a_nil))))))) (a_cons (d_str) (a_cons (d_var 6) (a_nil)))))) (a_nil)))))) (ss_cons (s_set 12 nd (f_add (d_var 12) (d_lst (a_cons (d_tup (a_cons (d_str) (a_cons (d_tup (a_cons (d_var 11) (a_cons (d_var 1) (a_cons (d_var 2) (a_cons (d_var 1) (a_cons (d_var 2) (a_nil))))))) (a_cons (d_str) (a_cons (d_var 11) (a_nil)))))) (a_cons (d_tup (a_cons (d_str) (a_cons (d_tup (a_cons (d_var 5) (a_cons (d_var 1) (a_cons (d_var 2) (a_cons (d_var 3) (a_cons (d_var 4) (a_nil))))))) (a_cons (d_str) (a_cons (d_non) (a_nil)))))) (a_nil)))))) (ss_cons (s_forI PassesOwn.never rfl (g_seq (d_tup (a_cons (d_str) (a_cons (d_str) (a_cons (d_str) (a_cons (d_str) (a_nil))))))) (g_name 13 nd) (ss_cons (s_set 14 nd (f_ix (d_tup (a_cons (d_str) (a_cons (d_str) (a_cons (d_str) (a_cons (d_str) (a_nil)))))) (d_tupIx (a_cons (d_str) (a_cons (d_str) (a_cons (d_str) (a_cons (d_str) (a_nil))))) (d_var 13)))) (ss_cons (s_set 15 nd (d_if (t_feq hr (d_var 13) (d_str)) (d_var 9) (d_if (t_feq hr (d_var 13) (d_str)) (d_var 8) (d_var 10)))) (ss_one (s_set 12 nd (f_add (d_var 12) (d_lst (a_cons (d_tup (a_cons (d_var 13) (a_cons (d_tup (a_cons (d_var 6) (a_cons (d_var 7) (a_nil)))) (a_cons (d_str) (a_cons (d_var 6) (a_nil)))))) (a_cons (d_tup (a_cons (d_var 13) (a_cons (d_tup (a_cons (d_var 8) (a_cons (d_var 6) (a_nil)))) (a_cons (d_var 14) (a_cons (d_var 6) (a_nil)))))) (a_cons (d_tup (a_cons (d_var 13) (a_cons (d_tup (a_cons (d_var 8) (a_cons (d_var 15) (a_nil)))) (a_cons (d_str) (a_cons (d_non) (a_nil)))))) (a_nil))))))))))) (ss_cons (s_set 12 nd (f_add (d_var 12) (d_lst (a_cons (d_tup (a_cons (d_str) (a_cons (d_tup (a_cons (d_var 6) (a_nil))) (a_cons (d_str) (a_cons (d_var 6) (a_nil)))))) (a_cons (d_tup (a_cons (d_str) (a_cons (d_tup (a_cons (d_var 8) (a_nil))) (a_cons (d_str) (a_cons (d_non) (a_nil)))))) (a_nil)))))) (ss_one (s_ret (f_add (d_var 12) (d_lst (a_cons (d_tup (a_cons (d_str) (a_cons (d_tup (a_cons (d_var 6) (a_nil))) (a_cons (d_str) (a_cons (d_var 6) (a_nil)))))) (a_cons (d_tup (a_cons (d_str) (a_cons (d_tup (a_cons (d_var 10) (a_nil))) (a_cons (d_str) (a_cons (d_non) (a_nil)))))) (a_nil)))))))))))))))
theorem ok__law_triple_cases (T : Tx K mg) : Ok P w K mg base 8 "_law_triple_cases" ["_law_tank_here"] sm__law_triple_cases := by
  refine ok_def (N := ["_law_tank_here", "_law_row_here", "_law_goals", "_law_found", "_law_wrong", "_law_at", "_law_further", "_law_spot", "_law_way", "_law_one", "_law_two", "_law_three", "_law_four_here", "_law_odd_here", "_law_other"]) T.d__law_triple_cases sc__law_triple_cases (fun _ _ _ _ _ _ us hl => match us, hl with | [_], _ => rfl) (fun _ _ _ _ _ _ us hl => match us, hl with | [_], _ => rfl) fun f cdv A fs s H E hr hgd => ?_
  have nd := sc__law_triple_cases.nd
  exact ss_cons (s_par3 1 2 3 rfl nd (a_cons (g_totup T.z_tuple (a_cons (d_call (ok__law_unlike T) (hr.mono (by decide)) hgd (a_tank 0 (a_cons (d_int) (a_nil)))) (a_nil))) (a_cons (g_totup T.z_tuple (a_cons (d_call (ok__law_unlike T) (hr.mono (by decide)) hgd (a_tank 0 (a_cons (d_int) (a_nil)))) (a_nil))) (a_cons (d_lst (a_nil)) (a_nil))))) (ss_cons (s_asg (d_call (ok__law_wrong_triple T) (hr.mono (by decide)) hgd (a_tank 0 (a_nil))) (g_unp rfl (gs_cons (g_name 4 nd) (gs_cons (g_name 5 nd) (gs_nil))))) (ss_cons (s_asg (d_call (ok__law_wrong_triple T) (hr.mono (by decide)) hgd (a_tank 0 (a_nil))) (g_unp rfl (gs_cons (g_name 6 nd) (gs_cons (g_name 7 nd) (gs_nil))))) (ss_cons (s_forI PassesOwn.never rfl (g_seq (d_tup (a_cons (d_str) (a_cons (d_str) (a_nil))))) (g_name 8 nd) (ss_cons (s_set 3 nd (f_add (d_var 3) (d_lst (a_cons (d_tup (a_cons (d_var 8) (a_cons (d_tup (a_cons (d_var 4) (a_cons (d_var 6) (a_nil)))) (a_cons (d_str) (a_cons (d_var 5) (a_nil)))))) (a_cons (d_tup (a_cons (d_var 8) (a_cons (d_tup (a_cons (d_var 1) (a_cons (d_var 6) (a_nil)))) (a_cons (d_str) (a_cons (d_var 7) (a_nil)))))) (a_nil)))))) (ss_one (s_set 3 nd (f_add (d_var 3) (d_lst (a_cons (d_tup (a_cons (d_var 8) (a_cons (d_tup (a_cons (d_var 1) (a_cons (d_var 2) (a_nil)))) (a_cons (d_str) (a_cons (d_non) (a_nil)))))) (a_nil)))))))) (ss_cons (s_asg (d_call (ok__law_unlike T) (hr.mono (by decide)) hgd (a_tank 0 (a_cons (d_int) (a_nil)))) (g_unp rfl (gs_cons (g_name 9 nd) (gs_cons (g_name 10 nd) (gs_cons (g_name 11 nd) (gs_cons (g_name 12 nd) (gs_nil))))))) (ss_cons (s_par 13 14 rfl nd (a_cons (d_call (ok__law_odd T) (hr.mono (by decide)) hgd (a_tank 0 (a_nil))) (a_cons (d_call (ok__law_odd T) (hr.mono (by decide)) hgd (a_tank 0 (a_nil))) (a_nil)))) (ss_cons (s_forI PassesOwn.never rfl (g_seq (d_tup (a_cons (d_str) (a_cons (d_str) (a_nil))))) (g_name 8 nd) (ss_cons (s_set 3 nd (f_add (d_var 3) (d_lst (a_cons (d_tup (a_cons (d_var 8) (a_cons (d_tup (a_cons (d_var 13) (a_cons (d_var 14) (a_cons (d_var 11) (a_cons (d_var 12) (a_nil)))))) (a_cons (d_str) (a_cons (d_var 13) (a_nil)))))) (a_cons (d_tup (a_cons (d_var 8) (a_cons (d_tup (a_cons (d_var 9) (a_cons (d_var 13) (a_cons (d_var 14) (a_cons (d_var 12) (a_nil)))))) (a_cons (d_str) (a_cons (d_var 13) (a_nil)))))) (a_nil)))))) (ss_cons (s_set 3 nd (f_add (d_var 3) (d_lst (a_cons (d_tup (a_cons (d_var 8) (a_cons (d_tup (a_cons (d_var 9) (a_cons (d_var 9) (a_cons (d_var 13) (a_cons (d_var 14) (a_nil)))))) (a_cons (d_str) (a_cons (d_var 13) (a_nil)))))) (a_cons (d_tup (a_cons (d_var 8) (a_cons (d_tup (a_cons (d_var 9) (a_cons (d_var 9) (a_cons (d_var 9) (a_cons (d_var 13) (a_nil)))))) (a_cons (d_str) (a_cons (d_var 13) (a_nil)))))) (a_nil)))))) (ss_cons (s_set 3 nd (f_add (d_var 3) (d_lst (a_cons (d_tup (a_cons (d_var 8) (a_cons (d_tup (a_cons (d_var 9) (a_cons (d_var 10) (a_cons (d_var 9) (a_cons (d_var 10) (a_nil)))))) (a_cons (d_str) (a_cons (d_var 9) (a_nil)))))) (a_cons (d_tup (a_cons (d_var 8) (a_cons (d_tup (a_cons (d_var 9) (a_cons (d_var 10) (a_cons (d_var 11) (a_cons (d_var 10) (a_nil)))))) (a_cons (d_str) (a_cons (d_var 10) (a_nil)))))) (a_nil)))))) (ss_one (s_set 3 nd (f_add (d_var 3) (d_lst (a_cons (d_tup (a_cons (d_var 8) (a_cons (d_tup (a_cons (d_var 9) (a_cons (d_var 9) (a_cons (d_var 10) (a_cons (d_var 10) (a_nil)))))) (a_cons (d_str) (a_cons (d_var 9) (a_nil)))))) (a_cons (d_tup (a_cons (d_var 8) (a_cons (d_tup (a_cons (d_var 9) (a_cons (d_var 10) (a_cons (d_var 11) (a_cons (d_var 12) (a_nil)))))) (a_cons (d_str) (a_cons (d_non) (a_nil)))))) (a_nil))))))))))) (ss_one (s_ret (d_var 3)))))))))
theorem ok__law_right (T : Tx K mg) : Ok P w K mg base 11 "_law_right" ["_law_tank_here"] sm__law_right := by
  refine ok_def (N := ["_law_tank_here", "_law_way", "_law_some", "_law_word", "_law_kept"]) T.d__law_right sc__law_right (fun _ _ _ _ _ _ us hl => match us, hl with | [_], _ => rfl) (fun _ _ _ _ _ _ us hl => match us, hl with | [_], _ => rfl) fun f cdv A fs s H E hr hgd => ?_
  have nd := sc__law_right.nd
  exact ss_cons (s_forI PassesOwn.never rfl (g_seq (f_add (d_call (ok__law_map_cases T) (hr.mono (by decide)) hgd (a_tank 0 (a_nil))) (d_call (ok__law_triple_cases T) (hr.mono (by decide)) hgd (a_tank 0 (a_nil))))) (g_unp rfl (gs_cons (g_name 1 nd) (gs_cons (g_name 2 nd) (gs_cons (g_name 3 nd) (gs_cons (g_name 4 nd) (gs_nil)))))) (ss_one (s_if (t_fne hr (g_reprE T.sysm hgd (room66 hr) T.z_repr (a_cons (d_call (ok__law_met T) (hr.mono (by decide)) hgd (a_cons (d_var 1) (a_cons (d_var 2) (a_nil)))) (a_nil))) (g_reprE T.sysm hgd (room66 hr) T.z_repr (a_cons (d_lst (a_cons (d_var 3) (a_cons (d_var 4) (a_nil)))) (a_nil)))) (ss_one (s_ret (d_bl))) (ss_nil)))) (ss_one (s_ret (d_bl)))
theorem ok_law (T : Tx K mg) : Ok P w K mg base 12 "law" ["_law_script"] sm_law := by
  refine ok_def (N := ["_law_script", "_law_spot"]) T.d_law sc_law (fun _ _ _ _ _ _ us hl => match us, hl with | [_], _ => rfl) (fun _ _ _ _ _ _ us hl => match us, hl with | [_], _ => rfl) fun f cdv A fs s H E hr hgd => ?_
  have nd := sc_law.nd
  exact ss_cons (s_forI PassesOwn.never rfl (i_range1 T.z_range (a_cons (d_call (ok__law_rounds T) (hr.mono (by decide)) hgd (a_cons (d_var 0) (a_nil))) (a_nil))) (g_name 1 nd) (ss_one (s_if (d_tnot (d_tst (d_callT (ok__law_right T) (ok__law_tank T) (hr.mono (by decide)) (hr.mono (by decide)) hgd (a_cons (d_var 0) (a_cons (d_var 1) (a_nil))) rfl))) (ss_one (s_ret (d_bl))) (ss_nil)))) (ss_one (s_ret (d_bl)))
end
theorem hd_tx {K : PySem.W.Frag} {mg : Str → Option Value} {h : Heap} (X : K.In h) (G : h.Ns mainGlobals mg) (c : hd.Says K) : Tx K mg := {
  d_is_whole := c.df X G 0
  d_are_wholes := c.df X G 1
  d_divisor_of := c.df X G 2
  d_lowest := c.df X G 3
  d_is_lowest := c.df X G 4
  d_is_led_up := c.df X G 5
  d_first_above := c.df X G 6
  d_is_complex := c.df X G 7
  d_check_complex := c.df X G 8
  d_plus := c.df X G 9
  d_minus := c.df X G 10
  d_times := c.df X G 11
  d_scaled := c.df X G 12
  d_turned_over := c.df X G 13
  d_square_size := c.df X G 14
  d_unit_for := c.df X G 15
  d_nearest := c.df X G 16
  d_divisor_of_two := c.df X G 17
  d_divisor_of_all := c.df X G 18
  d_divided := c.df X G 19
  d_is_place := c.df X G 20
  d_check_place := c.df X G 21
  d_quotient_place := c.df X G 22
  d_bend := c.df X G 23
  d_is_row := c.df X G 24
  d_is_round := c.df X G 25
  d_check_round := c.df X G 26
  d_check_apart := c.df X G 27
  d_determinant := c.df X G 28
  d_form_of := c.df X G 29
  d_is_flag := c.df X G 30
  d_is_map := c.df X G 31
  d_check_map := c.df X G 32
  d_map_of := c.df X G 33
  d_led_by := c.df X G 34
  d_inner := c.df X G 35
  d_led_row := c.df X G 36
  d_joined := c.df X G 37
  d_way_back := c.df X G 38
  d_mirror_of := c.df X G 39
  d_led_place := c.df X G 40
  d_led_round := c.df X G 41
  d_after := c.df X G 42
  d_back := c.df X G 43
  d_mirror_in := c.df X G 44
  d_is_straight := c.df X G 45
  d_check_triple := c.df X G 46
  d_apart := c.df X G 47
  d_chart_to_three := c.df X G 48
  d_plain_through := c.df X G 49
  d_mirrored_through := c.df X G 50
  d_four_ratio := c.df X G 51
  d_ratio_of_four := c.df X G 52
  d_on_one_round := c.df X G 53
  d__law_tank := c.df X G 54
  d__law_draw := c.df X G 55
  d__law_pick := c.df X G 56
  d__law_rounds := c.df X G 57
  d__law_number := c.df X G 58
  d__law_small := c.df X G 59
  d__law_least := c.df X G 60
  d__law_less := c.df X G 61
  d__law_times := c.df X G 62
  d__law_star := c.df X G 63
  d__law_size := c.df X G 64
  d__law_quarter := c.df X G 65
  d__law_over := c.df X G 66
  d__law_common := c.df X G 67
  d__law_form := c.df X G 68
  d__law_near := c.df X G 69
  d__law_row := c.df X G 70
  d__law_any_place := c.df X G 71
  d__law_unlike := c.df X G 72
  d__law_little := c.df X G 73
  d__law_map := c.df X G 74
  d__law_det := c.df X G 75
  d__law_four := c.df X G 76
  d__law_drawn_map := c.df X G 77
  d__law_run := c.df X G 78
  d__law_met := c.df X G 79
  d__law_odd := c.df X G 80
  d__law_wrong_triple := c.df X G 81
  d__law_map_cases := c.df X G 82
  d__law_triple_cases := c.df X G 83
  d__law_right := c.df X G 84
  d_law := c.df X G 85
  z_ValueError := c.fr X G 0
  z_abs := c.fr X G 1
  z_all := c.fr X G 2
  z_bool := c.fr X G 3
  z_divmod := c.fr X G 4
  z_enumerate := c.fr X G 5
  z_int := c.fr X G 6
  z_isinstance := c.fr X G 7
  z_len := c.fr X G 8
  z_list := c.fr X G 9
  z_max := c.fr X G 10
  z_min := c.fr X G 11
  z_range := c.fr X G 12
  z_repr := c.fr X G 13
  z_tuple := c.fr X G 14
  b_gcd := c.bf X G 0
  c_UNITS := c.gc X G 0
  c_ZERO := c.gc X G 1
  c_FAR := c.gc X G 2
  c_MANY := c.gc X G 3
  x_NoMap := c.xc X G 0
  x_ArmError := c.xc X G 1
  x1_InvalidComplex := c.xg X G 0 rfl ⟨by decide, _, _, _, _, _, _, rfl, rfl, rfl⟩
  x1_InvalidPlace := c.xg X G 1 rfl ⟨by decide, _, _, _, _, _, _, rfl, rfl, rfl⟩
  x1_InvalidRound := c.xg X G 2 rfl ⟨by decide, _, _, _, _, _, _, rfl, rfl, rfl⟩
  x1_Same := c.xg X G 3 rfl ⟨by decide, _, _, _, _, _, _, rfl, rfl, rfl⟩
  x1_InvalidMap := c.xg X G 4 rfl ⟨by decide, _, _, _, _, _, _, rfl, rfl, rfl⟩
  x1_InvalidFlag := c.xg X G 5 rfl ⟨by decide, _, _, _, _, _, _, rfl, rfl, rfl⟩
  x1_InvalidTriple := c.xg X G 6 rfl ⟨by decide, _, _, _, _, _, _, rfl, rfl, rfl⟩
  sysm := c.sy rfl
  io_InvalidNumbers := c.io X G (by decide +kernel) (fun nm b q => by unfold is_InvalidNumbers at q; (repeat' (split at q)); all_goals (first | (cases q; subst_vars; decide +kernel) | cases q))
  io_InvalidRow := c.io X G (by decide +kernel) (fun nm b q => by unfold is_InvalidRow at q; (repeat' (split at q)); all_goals (first | (cases q; subst_vars; decide +kernel) | cases q))
  io_NoMap := c.io X G (by decide +kernel) (fun nm b q => by unfold is_NoMap at q; (repeat' (split at q)); all_goals (first | (cases q; subst_vars; decide +kernel) | cases q))
  io_InvalidTriple := c.io X G (by decide +kernel) (fun nm b q => by unfold is_InvalidTriple at q; (repeat' (split at q)); all_goals (first | (cases q; subst_vars; decide +kernel) | cases q))
  io_Same := c.io X G (by decide +kernel) (fun nm b q => by unfold is_Same at q; (repeat' (split at q)); all_goals (first | (cases q; subst_vars; decide +kernel) | cases q))
  io_InvalidRound := c.io X G (by decide +kernel) (fun nm b q => by unfold is_InvalidRound at q; (repeat' (split at q)); all_goals (first | (cases q; subst_vars; decide +kernel) | cases q))
  io_InvalidPlace := c.io X G (by decide +kernel) (fun nm b q => by unfold is_InvalidPlace at q; (repeat' (split at q)); all_goals (first | (cases q; subst_vars; decide +kernel) | cases q))
  io_InvalidMap := c.io X G (by decide +kernel) (fun nm b q => by unfold is_InvalidMap at q; (repeat' (split at q)); all_goals (first | (cases q; subst_vars; decide +kernel) | cases q))
  io_InvalidComplex := c.io X G (by decide +kernel) (fun nm b q => by unfold is_InvalidComplex at q; (repeat' (split at q)); all_goals (first | (cases q; subst_vars; decide +kernel) | cases q))
  io_InvalidFlag := c.io X G (by decide +kernel) (fun nm b q => by unfold is_InvalidFlag at q; (repeat' (split at q)); all_goals (first | (cases q; subst_vars; decide +kernel) | cases q))
  ib_ValueError := c.ib X G (fun nm b q => by unfold is_ValueError at q; (repeat' (split at q)); all_goals (first | (cases q; subst_vars; decide +kernel) | cases q))
  g_given := fun nm cls hn q => by
    unfold gv_given at q
    split at q
    · rename_i z; subst z; obtain ⟨C, fI, t⟩ := c.xg X G 0 rfl ⟨by decide, _, _, _, _, _, _, rfl, rfl, rfl⟩; have e := t.gC; rw [hn] at e; cases e; exact ⟨_, _, _, rfl, t⟩
    split at q
    · rename_i z; subst z; obtain ⟨C, fI, t⟩ := c.xg X G 1 rfl ⟨by decide, _, _, _, _, _, _, rfl, rfl, rfl⟩; have e := t.gC; rw [hn] at e; cases e; exact ⟨_, _, _, rfl, t⟩
    split at q
    · rename_i z; subst z; obtain ⟨C, fI, t⟩ := c.xg X G 2 rfl ⟨by decide, _, _, _, _, _, _, rfl, rfl, rfl⟩; have e := t.gC; rw [hn] at e; cases e; exact ⟨_, _, _, rfl, t⟩
    split at q
    · rename_i z; subst z; obtain ⟨C, fI, t⟩ := c.xg X G 3 rfl ⟨by decide, _, _, _, _, _, _, rfl, rfl, rfl⟩; have e := t.gC; rw [hn] at e; cases e; exact ⟨_, _, _, rfl, t⟩
    split at q
    · rename_i z; subst z; obtain ⟨C, fI, t⟩ := c.xg X G 4 rfl ⟨by decide, _, _, _, _, _, _, rfl, rfl, rfl⟩; have e := t.gC; rw [hn] at e; cases e; exact ⟨_, _, _, rfl, t⟩
    split at q
    · rename_i z; subst z; obtain ⟨C, fI, t⟩ := c.xg X G 5 rfl ⟨by decide, _, _, _, _, _, _, rfl, rfl, rfl⟩; have e := t.gC; rw [hn] at e; cases e; exact ⟨_, _, _, rfl, t⟩
    cases q
  g_index := fun nm cls hn q => by
    unfold gv_index at q
    split at q
    · rename_i z; subst z; obtain ⟨C, fI, t⟩ := c.xg X G 6 rfl ⟨by decide, _, _, _, _, _, _, rfl, rfl, rfl⟩; have e := t.gC; rw [hn] at e; cases e; exact ⟨_, _, _, rfl, t⟩
    cases q
  m_ArmError := c.xm X G (fun nm q => by unfold mt_ArmError at q; (repeat' (split at q)); all_goals (first | (subst_vars; decide +kernel) | cases q))
  }
private theorem forL_c {g : dG} {f : dS} {k : dEnds} {d : D} {r : List D} {ρ : En} {T : Tk} : forL g f k (d :: r) ρ T = g d ρ T fun ρ1 T1 => f { nx := forL g f k r, rt := k.rt, bk := k.nx, ct := forL g f k r } ρ1 T1 := rfl
private theorem forL_n {g : dG} {f : dS} {k : dEnds} {ρ : En} {T : Tk} : forL g f k [] ρ T = k.nx ρ T := rfl
private theorem repD_succ {xs : List D} {n : Nat} : repD xs (n + 1) = xs ++ repD xs n := by unfold repD; rw [List.replicate_succ, List.flatten_cons]
private theorem repD_zero {xs : List D} : repD xs 0 = [] := rfl
local macro_rules | `(tactic| walk_at "ev") => `(tactic| try simp (maxSteps := 2000000) only [dVar, dC, dOp, dNeg, dIsN, dNotN, dTst, dAnd, dOr, dNot, dAndV, dOrV, dNotV, dIf, aNil, aCons, aTank, aStar, dTup, dLst, vals?, oF, oG, fAdd_int, fAdd_lst, fAdd_tup, fAdd_str, fSub_int, fSub_bl, fMul_int, fMul_lst, fDiv_int, fMod_int, fPow_int, fShl_int, fLt_int, fLe_int, fGt_int, fGe_int, fEq_int, fEq_str, fEq_bl, fEq_tup, fEq_lst, fEq_tn, fEq_nt, fEq_nn,
  fNe_int, fNe_str, fNe_bl, fNe_tup, fNe_lst, fNe_tn, fNe_nt, fNe_nn, fIn_lst, fNotIn_lst, fInS_lst, fInS_tup, fNotInS_lst, fNotInS_tup, gTL, iZA, zip2_lst, zip2_tup, zipD_nil, zipD_cons, enD, iEn, sOwnC, sParC, sPar3C, gOs, sFrq, dView, dViewT, noL_int, noL_bl, noL_str, noL_non, noL_tup, noLL_nil, noLL_cons, fIx_tup, fIx_lst, fIx_scr, ixR_some, it_tup, it_lst, cutq_lst, cutq_scr, cutq_tup, dSlQ, pSome, sSeq, sRet, sExpr, sIf, sAsg, gN, gsNil, gsCons, gT, sPar, sPar3, sParO, sForI, iQ, iR1, iR2, iR3, iZ, dCall, dCallT, dBlt, fLen_tup, fLen_lst, fLen_scr, fI1_int, fI2_int, fInt_int, fInt_bl, fSqrt_isq, fDivmod_int, fAll_lst, fAny_lst, fSum_lst, blR_some, nuR_some, fTuple_lst, fTuple_tup, fList_lst, fList_tup, fList_scr, fRepr_int, fRepr_tup, fRepr_lst, dIsi, isTy, sOwn, sFrz, sApp,
  dTix, gTs, isTank, dLc, cN, cT, setAll, dYes, wipeD, no0, isNon_non, isNon_int, isNon_bl, isNon_str, isNon_tup, isNon_lst, eqD_int, eqD_str, eqD_bl, eqD_nn, eqD_ni, eqD_in, eqD_nt, eqD_tn, eqD_tup, eqD_lst, eqDL_nil, eqDL_nc, eqDL_cn, eqDL_cons, Bool.and_eq_true, List.any_cons, List.any_nil, ifT, ifF, ifA, ifO, List.length_cons, List.length_nil, List.cons_append, List.nil_append, List.getElem?_cons_zero, List.getElem?_cons_succ, List.set_cons_zero, List.set_cons_succ, Option.map_some, Nat.reduceAdd, Nat.reduceSub, atI_lit, ixN_lit, atI_m1, Nat.reduceLT, reduceIte, Nat.reduceLeDiff, true_and,
  and_true, List.append_nil, List.map_cons, List.map_nil, decide_eq_true_eq, Bool.not_eq_true', decide_eq_false_iff_not, Int.cast_ofNat_Int, Int.reduceLT, Int.reduceLE, decide_true, decide_false, Bool.false_eq_true, Bool.not_true, Bool.not_false, lcD, forL_c, forL_n, cut_none, cut_to, cut_from, cut_fromto, List.take_succ_cons, List.take_zero, List.drop_succ_cons, List.drop_zero, List.take_nil, List.drop_nil, bls_nil, bls_cons, nums_nil, nums_cons, all_nil', all_cons', any_nil', any_cons', Bool.and_true, Bool.true_and, Bool.or_false, Bool.false_or, Bool.and_false, Bool.false_and])
local macro_rules | `(tactic| walk_at "evn") => `(tactic| try simp (maxSteps := 2000000) only [dVar, dC, dOp, dNeg, dIsN, dNotN, dTst, dAnd, dOr, dNot, dAndV, dOrV, dNotV, dIf, aNil, aCons, aTank, aStar, dTup, dLst, vals?, oF, oG, fAdd_int, fAdd_lst, fAdd_tup, fAdd_str, fSub_int, fSub_bl, fMul_int, fMul_lst, fDiv_int, fMod_int, fPow_int, fShl_int, fLt_int, fLe_int, fGt_int, fGe_int, fEq_int, fEq_str, fEq_bl, fEq_tup, fEq_lst, fEq_tn, fEq_nt, fEq_nn,
  fNe_int, fNe_str, fNe_bl, fNe_tup, fNe_lst, fNe_tn, fNe_nt, fNe_nn, fIn_lst, fNotIn_lst, fInS_lst, fInS_tup, fNotInS_lst, fNotInS_tup, gTL, iZA, zip2_lst, zip2_tup, zipD_nil, zipD_cons, enD, iEn, sOwnC, sParC, sPar3C, gOs, sFrq, dView, dViewT, noL_int, noL_bl, noL_str, noL_non, noL_tup, noLL_nil, noLL_cons, fIx_tup, fIx_lst, fIx_scr, ixR_some, it_tup, it_lst, cutq_lst, cutq_scr, cutq_tup, dSlQ, pSome, sSeq, sRet, sExpr, sIf, sAsg, gN, gsNil, gsCons, gT, sPar, sPar3, sParO, sForI, iQ, iR1, iR2, iR3, iZ, dCall, dCallT, dBlt, fLen_tup, fLen_lst, fLen_scr, fI1_int, fI2_int, fInt_int, fInt_bl, fSqrt_isq, fDivmod_int, fAll_lst, fAny_lst, fSum_lst, blR_some, nuR_some, fTuple_lst, fTuple_tup, fList_lst, fList_tup, fList_scr, fRepr_int, fRepr_tup, fRepr_lst, dIsi, isTy, sOwn, sFrz, sApp,
  dTix, gTs, isTank, dLc, cN, cT, setAll, dYes, wipeD, no0, isNon_non, isNon_int, isNon_bl, isNon_str, isNon_tup, isNon_lst, eqD_int, eqD_str, eqD_bl, eqD_nn, eqD_ni, eqD_in, eqD_nt, eqD_tn, eqD_tup, eqD_lst, eqDL_nil, eqDL_nc, eqDL_cn, eqDL_cons, Bool.and_eq_true, List.any_cons, List.any_nil, ifT, ifF, ifA, ifO, List.length_cons, List.length_nil, List.cons_append, List.nil_append, List.getElem?_cons_zero, List.getElem?_cons_succ, List.set_cons_zero, List.set_cons_succ, Option.map_some, Nat.reduceAdd, Nat.reduceSub, atI_lit, ixN_lit, atI_m1, Nat.reduceLT, reduceIte, Nat.reduceLeDiff, true_and,
  and_true, List.append_nil, List.map_cons, List.map_nil, decide_eq_true_eq, Bool.not_eq_true', decide_eq_false_iff_not, Int.cast_ofNat_Int, Int.reduceLT, Int.reduceLE, decide_true, decide_false, Bool.false_eq_true, Bool.not_true, Bool.not_false, lcD, forL_c, forL_n, cut_none, cut_to, cut_from, cut_fromto, List.take_succ_cons, List.take_zero, List.drop_succ_cons, List.drop_zero, List.take_nil, List.drop_nil, bls_nil, bls_cons, nums_nil, nums_cons, all_nil', all_cons', any_nil', any_cons', Bool.and_true, Bool.true_and, Bool.or_false, Bool.false_or, Bool.and_false, Bool.false_and, intsL, Int.reduceToNat, Int.reduceAdd, Int.reduceSub, Int.reduceMul, Int.reduceMod, Int.reduceNeg, Int.reducePow, Int.reduceEq, Int.reduceNe, Int.one_mul, Int.neg_mul, ne_eq, not_true_eq_false, not_false_eq_true, repD_succ, repD_zero, Nat.reduceMul])
local macro_rules | `(tactic| walk_at "mok") => `(tactic| (apply Sz.mulOk; (repeat' (first | assumption | apply Sz.mul | apply Sz.add | apply Sz.sub | apply Sz.neg)); all_goals omega))
local macro_rules | `(tactic| walk_at "evs") => `(tactic| try simp (maxSteps := 2000000) only [dVar, dC, dOp, dNeg, dIsN, dNotN, dTst, dAnd, dOr, dNot, dAndV, dOrV, dNotV, dIf, aNil, aCons, aTank, aStar, dTup, dLst, vals?, oF, oG, fAdd_int, fAdd_lst, fAdd_tup, fAdd_str, fSub_int, fSub_bl, fMul_int, fMul_lst, fDiv_int, fMod_int, fPow_int, fShl_int, fLt_int, fLe_int, fGt_int, fGe_int, fEq_int, fEq_str, fEq_bl, fEq_tup, fEq_lst, fEq_tn, fEq_nt, fEq_nn,
  fNe_int, fNe_str, fNe_bl, fNe_tup, fNe_lst, fNe_tn, fNe_nt, fNe_nn, fIn_lst, fNotIn_lst, fInS_lst, fInS_tup, fNotInS_lst, fNotInS_tup, gTL, iZA, zip2_lst, zip2_tup, zipD_nil, zipD_cons, iEn, sOwnC, sParC, sPar3C, gOs, sFrq, dView, dViewT, noL_int, noL_bl, noL_str, noL_non, noL_tup, noLL_nil, noLL_cons, fIx_tup, fIx_lst, fIx_scr, ixR_some, it_tup, it_lst, cutq_lst, cutq_scr, cutq_tup, dSlQ, pSome, sSeq, sRet, sExpr, sIf, sAsg, gN, gsNil, gsCons, gT, sPar, sPar3, sParO, sForI, iQ, iR1, iR2, iR3, iZ, dCall, dCallT, dBlt, fLen_tup, fLen_lst, fLen_scr, fI1_int, fI2_int, fInt_int, fInt_bl, fSqrt_isq, fDivmod_int, fAll_lst, fAny_lst, fSum_lst, blR_some, nuR_some, fTuple_lst, fTuple_tup, fList_lst, fList_tup, fList_scr, fRepr_int, fRepr_tup, fRepr_lst, dIsi, isTy, sOwn, sFrz, sApp,
  dTix, gTs, isTank, dLc, cN, cT, setAll, dYes, wipeD, no0, isNon_non, isNon_int, isNon_bl, isNon_str, isNon_tup, isNon_lst, eqD_int, eqD_str, eqD_bl, eqD_nn, eqD_ni, eqD_in, eqD_nt, eqD_tn, eqD_tup, eqD_lst, eqDL_nil, eqDL_nc, eqDL_cn, eqDL_cons, Bool.and_eq_true, List.any_cons, List.any_nil, ifT, ifF, ifA, ifO, List.length_cons, List.length_nil, List.cons_append, List.nil_append, List.getElem?_cons_zero, List.getElem?_cons_succ, List.set_cons_zero, List.set_cons_succ, Option.map_some, Nat.reduceAdd, Nat.reduceSub, atI_lit, ixN_lit, atI_m1, Nat.reduceLT, reduceIte, Nat.reduceLeDiff, true_and,
  and_true, List.append_nil, List.map_cons, List.map_nil, decide_eq_true_eq, Bool.not_eq_true', decide_eq_false_iff_not, Int.cast_ofNat_Int, Int.reduceLT, Int.reduceLE, decide_true, decide_false, Bool.false_eq_true, Bool.not_true, Bool.not_false, lcD, cut_none, cut_to, cut_from, cut_fromto, List.take_succ_cons, List.take_zero, List.drop_succ_cons, List.drop_zero, List.take_nil, List.drop_nil, bls_nil, bls_cons, nums_nil, nums_cons, all_nil', all_cons', any_nil', any_cons', Bool.and_true, Bool.true_and, Bool.or_false, Bool.false_or, Bool.and_false, Bool.false_and, intsL, Int.reduceToNat, Int.reduceAdd, Int.reduceSub, Int.reduceMul, Int.reduceMod, Int.reduceNeg, Int.reducePow, Int.reduceEq, Int.reduceNe, Int.one_mul, Int.neg_mul, ne_eq, not_true_eq_false, not_false_eq_true, repD_succ, repD_zero, Nat.reduceMul])
local macro_rules | `(tactic| walk_at "evm") => `(tactic| try simp (maxSteps := 2000000) only [dVar, dC, dOp, dNeg, dIsN, dNotN, dTst, dAnd, dOr, dNot, dAndV, dOrV, dNotV, dIf, aNil, aCons, aTank, aStar, dTup, dLst, vals?, oF, oG, fAdd_int, fAdd_lst, fAdd_tup, fAdd_str, fSub_int, fSub_bl, fMul_int, fMul_lst, fDiv_int, fMod_int, fPow_int, fShl_int, fLt_int, fLe_int, fGt_int, fGe_int, fEq_int, fEq_str, fEq_bl, fEq_tup, fEq_lst, fEq_tn, fEq_nt, fEq_nn,
  fNe_int, fNe_str, fNe_bl, fNe_tup, fNe_lst, fNe_tn, fNe_nt, fNe_nn, fIn_lst, fNotIn_lst, fInS_lst, fInS_tup, fNotInS_lst, fNotInS_tup, gTL, iZA, zip2_lst, zip2_tup, zipD_nil, zipD_cons, iEn, sOwnC, sParC, sPar3C, gOs, sFrq, dView, dViewT, noL_int, noL_bl, noL_str, noL_non, noL_tup, noLL_nil, noLL_cons, fIx_tup, fIx_lst, fIx_scr, ixR_some, it_tup, it_lst, cutq_lst, cutq_scr, cutq_tup, dSlQ, pSome, sSeq, sRet, sExpr, sIf, sAsg, gN, gsNil, gsCons, gT, sPar, sPar3, sParO, sForI, iQ, iR1, iR2, iR3, iZ, dCall, dCallT, dBlt, fLen_tup, fLen_lst, fLen_scr, fI1_int, fI2_int, fInt_int, fInt_bl, fSqrt_isq, fDivmod_int, fAll_lst, fAny_lst, fSum_lst, blR_some, nuR_some, fTuple_lst, fTuple_tup, fList_lst, fList_tup, fList_scr, fRepr_int, fRepr_tup, fRepr_lst, dIsi, isTy, sOwn, sFrz, sApp,
  dTix, gTs, isTank, dLc, cN, cT, setAll, dYes, wipeD, no0, isNon_non, isNon_int, isNon_bl, isNon_str, isNon_tup, isNon_lst, eqD_int, eqD_str, eqD_bl, eqD_nn, eqD_ni, eqD_in, eqD_nt, eqD_tn, eqD_tup, eqD_lst, eqDL_nil, eqDL_nc, eqDL_cn, eqDL_cons, Bool.and_eq_true, List.any_cons, List.any_nil, ifT, ifF, ifA, ifO, List.length_cons, List.length_nil, List.cons_append, List.nil_append, List.getElem?_cons_zero, List.getElem?_cons_succ, List.set_cons_zero, List.set_cons_succ, Option.map_some, Nat.reduceAdd, Nat.reduceSub, atI_lit, ixN_lit, atI_m1, Nat.reduceLT, reduceIte, Nat.reduceLeDiff, true_and,
  and_true, List.append_nil, List.map_cons, List.map_nil, decide_eq_true_eq, Bool.not_eq_true', decide_eq_false_iff_not, Int.cast_ofNat_Int, Int.reduceLT, Int.reduceLE, decide_true, decide_false, Bool.false_eq_true, Bool.not_true, Bool.not_false, cut_none, cut_to, cut_from, cut_fromto, List.take_succ_cons, List.take_zero, List.drop_succ_cons, List.drop_zero, List.take_nil, List.drop_nil, bls_nil, bls_cons, nums_nil, nums_cons, all_nil', all_cons', any_nil', any_cons', Bool.and_true, Bool.true_and, Bool.or_false, Bool.false_or, Bool.and_false, Bool.false_and, intsL, Int.reduceToNat, Int.reduceAdd, Int.reduceSub, Int.reduceMul, Int.reduceMod, Int.reduceNeg, Int.reducePow, Int.reduceEq, Int.reduceNe, Int.one_mul, Int.neg_mul, ne_eq, not_true_eq_false, not_false_eq_true, repD_succ, repD_zero, Nat.reduceMul])
local macro_rules | `(tactic| walk_at "evq") => `(tactic| try simp (maxSteps := 2000000) only [dVar, dC, dOp, dNeg, dIsN, dNotN, dTst, dAnd, dOr, dNot, dAndV, dOrV, dNotV, dIf, aNil, aCons, aTank, aStar, dTup, dLst, vals?, oF, oG, fAdd_int, fAdd_lst, fAdd_tup, fAdd_str, fSub_int, fSub_bl, fMul_int, fMul_lst, fDiv_int, fMod_int, fPow_int, fShl_int, fLt_int, fLe_int, fGt_int, fGe_int, fEq_int, fEq_str, fEq_bl, fEq_tup, fEq_lst, fEq_tn, fEq_nt, fEq_nn,
  fNe_int, fNe_str, fNe_bl, fNe_tup, fNe_lst, fNe_tn, fNe_nt, fNe_nn, fIn_lst, fNotIn_lst, fInS_lst, fInS_tup, fNotInS_lst, fNotInS_tup, gTL, iZA, zip2_lst, zip2_tup, zipD_nil, zipD_cons, iEn, sOwnC, sParC, sPar3C, gOs, sFrq, dView, dViewT, noL_int, noL_bl, noL_str, noL_non, noL_tup, noLL_nil, noLL_cons, fIx_tup, fIx_lst, fIx_scr, ixR_some, it_tup, it_lst, cutq_lst, cutq_scr, cutq_tup, dSlQ, pSome, sSeq, sRet, sExpr, sIf, sAsg, gN, gsNil, gsCons, gT, sPar, sPar3, sParO, sForI, iQ, iR1, iR2, iR3, iZ, dCall, dCallT, dBlt, fLen_tup, fLen_lst, fLen_scr, fI1_int, fI2_int, fInt_int, fInt_bl, fSqrt_isq, fDivmod_int, fAll_lst, fAny_lst, fSum_lst, blR_some, nuR_some, fTuple_lst, fTuple_tup, fList_lst, fList_tup, fList_scr, fRepr_int, fRepr_tup, fRepr_lst, dIsi, isTy, sOwn, sFrz, sApp,
  dTix, gTs, isTank, dLc, cN, cT, setAll, dYes, wipeD, no0, isNon_non, isNon_int, isNon_bl, isNon_str, isNon_tup, isNon_lst, eqD_int, eqD_str, eqD_bl, eqD_nn, eqD_ni, eqD_in, eqD_nt, eqD_tn, eqD_tup, eqD_lst, eqDL_nil, eqDL_nc, eqDL_cn, eqDL_cons, Bool.and_eq_true, List.any_cons, List.any_nil, ifT, ifF, ifA, ifO, List.length_cons, List.length_nil, List.cons_append, List.nil_append, List.getElem?_cons_zero, List.getElem?_cons_succ, List.set_cons_zero, List.set_cons_succ, Option.map_some, Nat.reduceAdd, Nat.reduceSub, atI_lit, ixN_lit, atI_m1, Nat.reduceLT, reduceIte, Nat.reduceLeDiff, true_and,
  and_true, List.append_nil, List.map_cons, List.map_nil, decide_eq_true_eq, Bool.not_eq_true', decide_eq_false_iff_not, Int.cast_ofNat_Int, Int.reduceLT, Int.reduceLE, decide_true, decide_false, Bool.false_eq_true, Bool.not_true, Bool.not_false, cut_none, cut_to, cut_from, cut_fromto, List.take_succ_cons, List.take_zero, List.drop_succ_cons, List.drop_zero, List.take_nil, List.drop_nil, bls_nil, bls_cons, nums_nil, nums_cons, all_nil', all_cons', any_nil', any_cons', Bool.and_true, Bool.true_and, Bool.or_false, Bool.false_or, Bool.and_false, Bool.false_and, Int.reduceAdd, Int.reduceSub, Int.reduceMul, Int.reduceMod, Int.reduceNeg, Int.reducePow, Int.reduceEq, Int.reduceNe, Int.one_mul, Int.neg_mul, ne_eq, not_true_eq_false, not_false_eq_true, repD_succ, repD_zero, Nat.reduceMul])
local macro_rules | `(tactic| walk_at "wk") => `(tactic| (try simp (maxSteps := 2000000) (dsimp := false) (implicitDefEqProofs := false) only [↓h_var, ↓h_c, ↓h_op, ↓h_neg, ↓h_isN, ↓h_notN, ↓h_tst, ↓h_and, ↓h_or, ↓h_not, ↓h_andV, ↓h_orV, ↓h_notV, ↓h_if, ↓h_anil, ↓h_acons, ↓h_atank, ↓h_astar, ↓h_tup, ↓h_lst, ↓h_call, ↓h_callX, ↓h_tupIx, ↓h_raise1, ↓h_raise0, ↓h_isE, ↓h_givE, ↓h_mt, ↓h_callT, ↓h_callP, ↓h_aApp, ↓h_blt, ↓h_psome, ↓h_slq, ↓h_rev, ↓h_dct0, ↓h_dct1, ↓h_dctIx, ↓h_isi, ↓h_iQ, ↓h_iR1, ↓h_iR2, ↓h_iR3, ↓h_iZA, ↓h_iEn, ↓h_seq, ↓h_ret, ↓h_expr, ↓h_sif, ↓h_asg, ↓h_gN, ↓h_gsnil, ↓h_gscons, ↓h_gTL, ↓h_gT, ↓h_par, ↓h_par3, ↓h_parO, ↓h_parF, ↓h_parC, ↓h_par3C, ↓h_own, ↓h_ownC, ↓h_frz, ↓h_frq, ↓h_app, ↓h_view, ↓h_viewT, ↓h_gOs, ↓h_for, ↓h_lc, ↓h_lcO, ↓h_yes, ↓oF_pd, ↓orVK_t, ↓andVK_f, ↓orK_t, ↓andK_f, varK_go, tixK_go, exK_0, exK_1, gvK_1, mtK_go, raiK_go, iteB_t, iteB_f, iteB_not, iteB_tt, setE_go, pdK_c, pdK_t, negK_go, bolK_go, tstK_go, andK_t, andK_f, andK_p, andK_q, orK_t, orK_f, orK_p, orK_q, andVK_t, andVK_f, andVK_p, andVK_q, orVK_t, orVK_f, orVK_p, orVK_q, notVK_go, tnkK_go, sqK_go, vals_val, vals_nil, callN_go, callP_go, lstK_go, opK_go, intK_go, blqK_go, r1K_go, r2K_go, r3K_go, zpK_go, parK_go, parK3_go, ownK_o, ownK_v, ownK_n, natK_go, forK_nil, forK_cons, lcK_nil, lcK_cons, enK_go, h_cN, h_cT, setAll_nil, setAll_cons, wipe_nil, wipe_cons, okN_t, okN_non, okN_int, okN_bl, okN_tup, okN_lst, okL_nil, okL_cons, fReprE_lst, fReprE_tup, fReprE_int, fReprE_bl, fReprE_non, fCntT_lst, fIdxT_lst, cntC_some, idxC_some, ixR2_some, idxI_t, idxI_f, cntT_nil, cntT_t, cntT_f, fSortT_lst, stR_some, fSortS_lst, stS_some, fLtU_int, fLtU_tup, ltR_some, tups_nil, tups_c, tpC_some, fBitL_int, permL_n, permL_c, pmC_s, fMaxL_lst, mxR_some, isTy_dct, isNon_dct, fIs_bl, fIsn_bl, bIs_t, bIs_f, bIs_s, rev_lst, rev_tup, rev_scr, List.reverse_cons, List.reverse_nil, fAdd_int, fAdd_lst, fAdd_tup, fAdd_str, fSub_int, fSub_bl, fMul_int, fMul_lst, fDiv_int, fMod_int, fPow_int, fShl_int, fLt_int, fLe_int, fGt_int, fGe_int, fEq_int, fEq_str, fEq_bl, fEq_tup, fEq_lst, fEq_tn, fEq_nt, fEq_nn, fEq_it, fEq_ti, fEq_in, fEq_ni, fNe_in, fNe_ni, fNe_int, fNe_str, fNe_bl, fNe_tup, fNe_lst, fNe_tn, fNe_nt, fNe_nn, fInS_lst, fInS_tup, fNotInS_lst, fNotInS_tup, zip2_lst, zip2_tup, zipD_nil, zipD_cons, enD, noL_int, noL_bl, noL_str, noL_non, noL_tup, noLL_nil, noLL_cons, fIx_tup, fIx_lst, fIx_scr, ixR_some, it_tup, it_lst, cutq_lst, cutq_scr, cutq_tup, fLen_tup, fLen_lst, fLen_scr, fI1_int, fI2_int, fInt_int, fInt_bl, fSqrt_isq, fDivmod_int, fAll_lst, fAny_lst, fSum_lst, blR_some, nuR_some, fTuple_lst, fTuple_tup, fList_lst, fList_tup, fList_scr, fRepr_int, fRepr_bl, fRepr_non, fRepr_tup, fRepr_lst, isTy, isNon_non, isNon_int, isNon_bl, isNon_str, isNon_tup, isNon_lst, eqD_int, eqD_str, eqD_bl, eqD_nn, eqD_ni, eqD_in, eqD_nt, eqD_tn, eqD_tup, eqD_lst, eqDL_nil, eqDL_nc, eqDL_cn, eqDL_cons, List.any_cons, List.any_nil, List.length_cons, List.length_nil, List.cons_append, List.nil_append, List.getElem?_cons_zero, List.getElem?_cons_succ, List.set_cons_zero, List.set_cons_succ, Option.map_some, Nat.reduceAdd, Nat.reduceSub, atI_lit, ixN_lit, atI_m1, Nat.reduceLT, reduceIte, Nat.reduceLeDiff, true_and, and_true, List.append_nil, List.map_cons, List.map_nil, Bool.not_eq_true', Int.cast_ofNat_Int, Int.reduceLT, Int.reduceLE, decide_true, decide_false, Bool.false_eq_true, Bool.not_true, Bool.not_false, cut_none, cut_to, cut_from, cut_fromto, List.take_succ_cons, List.take_zero, List.drop_succ_cons, List.drop_zero, List.take_nil, List.drop_nil, bls_nil, bls_cons, nums_nil, nums_cons, all_nil', all_cons', any_nil', any_cons', Bool.and_true, Bool.true_and, Bool.or_false, Bool.false_or, Bool.and_false, Bool.false_and, Bool.true_or, Bool.or_true, Int.reduceToNat, Int.reduceAdd, Int.reduceSub, Int.reduceMul, Int.reduceMod, Int.reduceNeg, Int.reducePow, Int.reduceEq, Int.reduceNe, Int.one_mul, Int.neg_mul, ne_eq, not_true_eq_false, not_false_eq_true, repD_succ, repD_zero, Nat.reduceMul, Bool.not_not, eq_self, and_self, false_implies, true_implies, implies_true, Nat.reduceEqDiff]); try rewrite [callS_eq])
local macro_rules | `(tactic| walk_at "wki") => `(tactic| (try simp (maxSteps := 2000000) (dsimp := false) (implicitDefEqProofs := false) only [↓h_var, ↓h_c, ↓h_op, ↓h_neg, ↓h_isN, ↓h_notN, ↓h_tst, ↓h_and, ↓h_or, ↓h_not, ↓h_andV, ↓h_orV, ↓h_notV, ↓h_if, ↓h_anil, ↓h_acons, ↓h_atank, ↓h_astar, ↓h_tup, ↓h_lst, ↓h_call, ↓h_callX, ↓h_tupIx, ↓h_raise1, ↓h_raise0, ↓h_isE, ↓h_givE, ↓h_mt, ↓h_callT, ↓h_callP, ↓h_aApp, ↓h_blt, ↓h_psome, ↓h_slq, ↓h_rev, ↓h_dct0, ↓h_dct1, ↓h_dctIx, ↓h_isi, ↓h_iQ, ↓h_iR1, ↓h_iR2, ↓h_iR3, ↓h_iZA, ↓h_iEn, ↓h_seq, ↓h_ret, ↓h_expr, ↓h_sif, ↓h_asg, ↓h_gN, ↓h_gsnil, ↓h_gscons, ↓h_gTL, ↓h_gT, ↓h_par, ↓h_par3, ↓h_parO, ↓h_parF, ↓h_parC, ↓h_par3C, ↓h_own, ↓h_ownC, ↓h_frz, ↓h_frq, ↓h_app, ↓h_view, ↓h_viewT, ↓h_gOs, ↓h_for, ↓h_lc, ↓h_lcO, ↓h_yes, ↓oF_pd, ↓orVK_t, ↓andVK_f, ↓orK_t, ↓andK_f, varK_go, tixK_go, exK_0, exK_1, gvK_1, mtK_go, raiK_go, iteB_t, iteB_f, iteB_not, iteB_tt, setE_go, pdK_c, pdK_t, negK_go, bolK_go, tstK_go, andK_t, andK_f, andK_p, andK_q, orK_t, orK_f, orK_p, orK_q, andVK_t, andVK_f, andVK_p, andVK_q, orVK_t, orVK_f, orVK_p, orVK_q, notVK_go, tnkK_go, sqK_go, vals_val, vals_nil, callN_go, callP_go, lstK_go, opK_go, intK_go, blqK_go, r1K_go, r2K_go, r3K_go, zpK_go, parK_go, parK3_go, ownK_o, ownK_v, ownK_n, natK_go, forK_nil, forK_cons, lcK_nil, lcK_cons, enK_go, h_cN, h_cT, setAll_nil, setAll_cons, wipe_nil, wipe_cons, okN_t, okN_non, okN_int, okN_bl, okN_tup, okN_lst, okL_nil, okL_cons, fReprE_lst, fReprE_tup, fReprE_int, fReprE_bl, fReprE_non, fCntT_lst, fIdxT_lst, cntC_some, idxC_some, ixR2_some, idxI_t, idxI_f, cntT_nil, cntT_t, cntT_f, fSortT_lst, stR_some, fSortS_lst, stS_some, fLtU_int, fLtU_tup, ltR_some, tups_nil, tups_c, tpC_some, fBitL_int, permL_n, permL_c, pmC_s, fMaxL_lst, mxR_some, isTy_dct, isNon_dct, fIs_bl, fIsn_bl, bIs_t, bIs_f, bIs_s, rev_lst, rev_tup, rev_scr, List.reverse_cons, List.reverse_nil, fAdd_int, fAdd_lst, fAdd_tup, fAdd_str, fSub_int, fSub_bl, fMul_int, fMul_lst, fDiv_int, fMod_int, fPow_int, fShl_int, fLt_int, fLe_int, fGt_int, fGe_int, fEq_int, fEq_str, fEq_bl, fEq_tup, fEq_lst, fEq_tn, fEq_nt, fEq_nn, fEq_it, fEq_ti, fEq_in, fEq_ni, fNe_in, fNe_ni, fNe_int, fNe_str, fNe_bl, fNe_tup, fNe_lst, fNe_tn, fNe_nt, fNe_nn, fInS_lst, fInS_tup, fNotInS_lst, fNotInS_tup, zip2_lst, zip2_tup, zipD_nil, zipD_cons, enD, noL_int, noL_bl, noL_str, noL_non, noL_tup, noLL_nil, noLL_cons, fIx_tup, fIx_lst, fIx_scr, ixR_some, it_tup, it_lst, cutq_lst, cutq_scr, cutq_tup, fLen_tup, fLen_lst, fLen_scr, fI1_int, fI2_int, fInt_int, fInt_bl, fSqrt_isq, fDivmod_int, fAll_lst, fAny_lst, fSum_lst, blR_some, nuR_some, fTuple_lst, fTuple_tup, fList_lst, fList_tup, fList_scr, fRepr_int, fRepr_bl, fRepr_non, fRepr_tup, fRepr_lst, isTy, isNon_non, isNon_int, isNon_bl, isNon_str, isNon_tup, isNon_lst, eqD_int, eqD_str, eqD_bl, eqD_nn, eqD_ni, eqD_in, eqD_nt, eqD_tn, eqD_tup, eqD_lst, eqDL_nil, eqDL_nc, eqDL_cn, eqDL_cons, List.any_cons, List.any_nil, List.length_cons, List.length_nil, List.cons_append, List.nil_append, List.getElem?_cons_zero, List.getElem?_cons_succ, List.set_cons_zero, List.set_cons_succ, Option.map_some, Nat.reduceAdd, Nat.reduceSub, atI_lit, ixN_lit, atI_m1, Nat.reduceLT, reduceIte, Nat.reduceLeDiff, true_and, and_true, List.append_nil, List.map_cons, List.map_nil, Bool.not_eq_true', Int.cast_ofNat_Int, Int.reduceLT, Int.reduceLE, decide_true, decide_false, Bool.false_eq_true, Bool.not_true, Bool.not_false, cut_none, cut_to, cut_from, cut_fromto, List.take_succ_cons, List.take_zero, List.drop_succ_cons, List.drop_zero, List.take_nil, List.drop_nil, bls_nil, bls_cons, nums_nil, nums_cons, all_nil', all_cons', any_nil', any_cons', Bool.and_true, Bool.true_and, Bool.or_false, Bool.false_or, Bool.and_false, Bool.false_and, Bool.true_or, Bool.or_true, Int.reduceToNat, Int.reduceAdd, Int.reduceSub, Int.reduceMul, Int.reduceMod, Int.reduceNeg, Int.reducePow, Int.reduceEq, Int.reduceNe, Int.one_mul, Int.neg_mul, ne_eq, not_true_eq_false, not_false_eq_true, repD_succ, repD_zero, Nat.reduceMul, Bool.not_not, eq_self, and_self, false_implies, true_implies, implies_true, Nat.reduceEqDiff, intsL]); try rewrite [callS_eq])
local macro_rules | `(tactic| walk_at "wkn") => `(tactic| (try simp (maxSteps := 2000000) (dsimp := false) (implicitDefEqProofs := false) only [↓h_var, ↓h_c, ↓h_op, ↓h_neg, ↓h_isN, ↓h_notN, ↓h_tst, ↓h_and, ↓h_or, ↓h_not, ↓h_andV, ↓h_orV, ↓h_notV, ↓h_if, ↓h_anil, ↓h_acons, ↓h_atank, ↓h_astar, ↓h_tup, ↓h_lst, ↓h_call, ↓h_callX, ↓h_tupIx, ↓h_raise1, ↓h_raise0, ↓h_isE, ↓h_givE, ↓h_mt, ↓h_callT, ↓h_callP, ↓h_aApp, ↓h_blt, ↓h_psome, ↓h_slq, ↓h_rev, ↓h_dct0, ↓h_dct1, ↓h_dctIx, ↓h_isi, ↓h_iQ, ↓h_iR1, ↓h_iR2, ↓h_iR3, ↓h_iZA, ↓h_iEn, ↓h_seq, ↓h_ret, ↓h_expr, ↓h_sif, ↓h_asg, ↓h_gN, ↓h_gsnil, ↓h_gscons, ↓h_gTL, ↓h_gT, ↓h_par, ↓h_par3, ↓h_parO, ↓h_parF, ↓h_parC, ↓h_par3C, ↓h_own, ↓h_ownC, ↓h_frz, ↓h_frq, ↓h_app, ↓h_view, ↓h_viewT, ↓h_gOs, ↓h_for, ↓h_lc, ↓h_lcO, ↓h_yes, ↓oF_pd, ↓orVK_t, ↓andVK_f, ↓orK_t, ↓andK_f, varK_go, tixK_go, exK_0, exK_1, gvK_1, mtK_go, raiK_go, iteB_t, iteB_f, iteB_not, iteB_tt, setE_go, pdK_c, pdK_t, negK_go, bolK_go, tstK_go, andK_t, andK_f, andK_p, andK_q, orK_t, orK_f, orK_p, orK_q, andVK_t, andVK_f, andVK_p, andVK_q, orVK_t, orVK_f, orVK_p, orVK_q, notVK_go, tnkK_go, sqK_go, vals_val, vals_nil, callN_go, callP_go, lstK_go, opK_go, intK_go, blqK_go, r1K_go, r2K_go, r3K_go, zpK_go, parK_go, parK3_go, ownK_o, ownK_v, ownK_n, natK_go, forK_nil, lcK_nil, enK_go, h_cN, h_cT, setAll_nil, setAll_cons, wipe_nil, wipe_cons, okN_t, okN_non, okN_int, okN_bl, okN_tup, okN_lst, okL_nil, okL_cons, fReprE_lst, fReprE_tup, fReprE_int, fReprE_bl, fReprE_non, fCntT_lst, fIdxT_lst, cntC_some, idxC_some, ixR2_some, idxI_t, idxI_f, cntT_nil, cntT_t, cntT_f, fSortT_lst, stR_some, fSortS_lst, stS_some, fLtU_int, fLtU_tup, ltR_some, tups_nil, tups_c, tpC_some, fBitL_int, permL_n, permL_c, pmC_s, fMaxL_lst, mxR_some, isTy_dct, isNon_dct, fIs_bl, fIsn_bl, bIs_t, bIs_f, bIs_s, rev_lst, rev_tup, rev_scr, List.reverse_cons, List.reverse_nil, fAdd_int, fAdd_lst, fAdd_tup, fAdd_str, fSub_int, fSub_bl, fMul_int, fMul_lst, fDiv_int, fMod_int, fPow_int, fShl_int, fLt_int, fLe_int, fGt_int, fGe_int, fEq_int, fEq_str, fEq_bl, fEq_tup, fEq_lst, fEq_tn, fEq_nt, fEq_nn, fEq_it, fEq_ti, fEq_in, fEq_ni, fNe_in, fNe_ni, fNe_int, fNe_str, fNe_bl, fNe_tup, fNe_lst, fNe_tn, fNe_nt, fNe_nn, fInS_lst, fInS_tup, fNotInS_lst, fNotInS_tup, zip2_lst, zip2_tup, zipD_nil, zipD_cons, enD, noL_int, noL_bl, noL_str, noL_non, noL_tup, noLL_nil, noLL_cons, fIx_tup, fIx_lst, fIx_scr, ixR_some, it_tup, it_lst, cutq_lst, cutq_scr, cutq_tup, fLen_tup, fLen_lst, fLen_scr, fI1_int, fI2_int, fInt_int, fInt_bl, fSqrt_isq, fDivmod_int, fAll_lst, fAny_lst, fSum_lst, blR_some, nuR_some, fTuple_lst, fTuple_tup, fList_lst, fList_tup, fList_scr, fRepr_int, fRepr_bl, fRepr_non, fRepr_tup, fRepr_lst, isTy, isNon_non, isNon_int, isNon_bl, isNon_str, isNon_tup, isNon_lst, eqD_int, eqD_str, eqD_bl, eqD_nn, eqD_ni, eqD_in, eqD_nt, eqD_tn, eqD_tup, eqD_lst, eqDL_nil, eqDL_nc, eqDL_cn, eqDL_cons, List.any_cons, List.any_nil, List.length_cons, List.length_nil, List.cons_append, List.nil_append, List.getElem?_cons_zero, List.getElem?_cons_succ, List.set_cons_zero, List.set_cons_succ, Option.map_some, Nat.reduceAdd, Nat.reduceSub, atI_lit, ixN_lit, atI_m1, Nat.reduceLT, reduceIte, Nat.reduceLeDiff, true_and, and_true, List.append_nil, List.map_cons, List.map_nil, Bool.not_eq_true', Int.cast_ofNat_Int, Int.reduceLT, Int.reduceLE, decide_true, decide_false, Bool.false_eq_true, Bool.not_true, Bool.not_false, cut_none, cut_to, cut_from, cut_fromto, List.take_succ_cons, List.take_zero, List.drop_succ_cons, List.drop_zero, List.take_nil, List.drop_nil, bls_nil, bls_cons, nums_nil, nums_cons, all_nil', all_cons', any_nil', any_cons', Bool.and_true, Bool.true_and, Bool.or_false, Bool.false_or, Bool.and_false, Bool.false_and, Bool.true_or, Bool.or_true, Int.reduceToNat, Int.reduceAdd, Int.reduceSub, Int.reduceMul, Int.reduceMod, Int.reduceNeg, Int.reducePow, Int.reduceEq, Int.reduceNe, Int.one_mul, Int.neg_mul, ne_eq, not_true_eq_false, not_false_eq_true, repD_succ, repD_zero, Nat.reduceMul, Bool.not_not, eq_self, and_self, false_implies, true_implies, implies_true, Nat.reduceEqDiff]); try rewrite [callS_eq])

def TkOk (T : Tk) : Prop := ∃ a b c, T = [.int a, .int b, .int c] ∧ 0 ≤ a ∧ 0 ≤ b
set_option exponentiation.threshold 20000
theorem lit_mul {i j : Int} (h : i.natAbs < 2 ^ 64) : MulOk i j := .inl (.inl h)
theorem lit_mul' {i j : Int} (h : j.natAbs < 2 ^ 64) : MulOk i j := .inl (.inr h)
theorem lit_div {i j : Int} (h : 0 < j) (q : j.natAbs < 2 ^ 64) : DivOk i j := ⟨h, Nat.lt_of_lt_of_le q (Nat.pow_le_pow_right (by decide) (by decide))⟩
theorem lit_dm {i j : Int} (h : 0 < j) (q : j.natAbs < 2 ^ 64) : DmOk i j := ⟨h, Nat.lt_of_lt_of_le q (Nat.pow_le_pow_right (by decide) (by decide))⟩
theorem mul_self_nonneg' (a : Int) : 0 ≤ a * a := by
  rcases Int.le_total 0 a with h | h
  · exact Int.mul_nonneg h h
  · exact Int.mul_nonneg_of_nonpos_of_nonpos h h
theorem imul_self_pos {a : Int} (h : a ≠ 0) : 0 < a * a := by
  rcases Int.lt_or_gt_of_ne h with q | q
  · exact Int.mul_pos_of_neg_of_neg q q
  · exact Int.mul_pos q q
theorem lite_lst {xs : List D} (h : D.liteL xs) : (D.lst xs).lite := by simpa only [D.lite] using h
theorem lite_tup {xs : List D} (h : D.liteL xs) : (D.tup xs).lite := by simpa only [D.lite] using h
theorem liteL_nil : D.liteL [] := by simp only [D.liteL]
theorem liteL_cons {x : D} {xs : List D} (h : x.lite) (q : D.liteL xs) : D.liteL (x :: xs) := by simp only [D.liteL]; exact ⟨h, q⟩
abbrev Cx2 := Int × Int
def Cz (n : Nat) (z : Cx2) : Prop := Sz n z.1 ∧ Sz n z.2
def cadd (z w : Cx2) : Cx2 := (z.1 + w.1, z.2 + w.2)
def csub (z w : Cx2) : Cx2 := (z.1 - w.1, z.2 - w.2)
def cmul (z w : Cx2) : Cx2 := (z.1 * w.1 - z.2 * w.2, z.1 * w.2 + z.2 * w.1)
def cconj (z : Cx2) : Cx2 := (z.1, -z.2)
def cnrm (z : Cx2) : Int := z.1 * z.1 + z.2 * z.2
theorem Cz.mono {m n : Nat} {z : Cx2} (h : Cz m z) (l : m ≤ n) : Cz n z := ⟨h.1.mono l, h.2.mono l⟩
theorem Cz.add {n : Nat} {z w : Cx2} (h : Cz n z) (q : Cz n w) : Cz (n + 1) (cadd z w) := ⟨by simpa [cadd] using h.1.add q.1, by simpa [cadd] using h.2.add q.2⟩
theorem Cz.sub {n : Nat} {z w : Cx2} (h : Cz n z) (q : Cz n w) : Cz (n + 1) (csub z w) := ⟨by simpa [csub] using h.1.sub q.1, by simpa [csub] using h.2.sub q.2⟩
theorem Cz.mul {m n : Nat} {z w : Cx2} (h : Cz m z) (q : Cz n w) : Cz (m + n + 1) (cmul z w) := ⟨by simpa [cmul] using (h.1.mul q.1).sub (h.2.mul q.2), by simpa [cmul] using (h.1.mul q.2).add (h.2.mul q.1)⟩
theorem Cz.conj {n : Nat} {z : Cx2} (h : Cz n z) : Cz n (cconj z) := ⟨h.1, h.2.neg⟩
theorem Cz.nrm {n : Nat} {z : Cx2} (h : Cz n z) : Sz (n + n + 1) (cnrm z) := by simpa [cnrm] using (h.1.mul h.1).add (h.2.mul h.2)
theorem lite_cx {n : Nat} {a b : Int} (h : Cz n (a, b)) (l : n ≤ 1900) : (D.tup [.int a, .int b]).lite := lite_tup (liteL_cons (h.1.lite l) (liteL_cons (h.2.lite l) liteL_nil))
theorem w__law_draw {T : Tk} {m : Int} {k : KD} (hT : TkOk T) (h0 : 0 < m) (h1 : m.natAbs < 2 ^ 64) (h : ∀ r T', 0 ≤ r → r < m → TkOk T' → k (.int r) T') : sm__law_draw [.tank, .val (.int m)] T k := by
  obtain ⟨a, b, c, rfl, ha, hb⟩ := hT
  rw [e__law_draw, b__law_draw]
  walk_at "ev"
  split
  · exact ⟨lit_dm h0 h1, h _ _ (Int.emod_nonneg _ (by omega)) (Int.emod_lt_of_pos _ h0) ⟨_, _, _, rfl, Int.ediv_nonneg ha (by omega), hb⟩⟩
  · refine ⟨lit_mul' (by omega), lit_mul (by decide), lit_div (by decide) (by decide), h0, h _ _ (Int.emod_nonneg _ (by omega)) (Int.emod_lt_of_pos _ h0) ⟨_, _, _, rfl, ha, Int.emod_nonneg _ (by decide)⟩⟩
theorem w__law_pick {T : Tk} {xs : List D} {k : KD} (hT : TkOk T) (h0 : xs ≠ []) (h1 : xs.length < 1000000) (h : ∀ x T', x ∈ xs → TkOk T' → k x T') : sm__law_pick [.tank, .val (.tup xs)] T k := by
  rw [e__law_pick, b__law_pick]
  walk_at "ev"
  have hl : 0 < xs.length := List.length_pos_iff.mpr h0
  refine w__law_draw hT (by omega) (by omega) fun r T' h2 h3 hT' => ?_
  obtain ⟨n, rfl⟩ := Int.eq_ofNat_of_zero_le h2
  have hn : n < xs.length := by omega
  walk_at "ev"
  simp only [atI_nat', List.getElem?_eq_getElem hn, ixR_some]
  exact ⟨trivial, h _ _ (List.getElem_mem hn) hT'⟩
theorem w__law_number {T : Tk} {k : KD} (hT : TkOk T) (h : ∀ r T', Sz 40 r → TkOk T' → k (.int r) T') : sm__law_number [.tank] T k := by
  rw [e__law_number, b__law_number]
  walk_at "ev"
  refine w__law_pick hT (by simp) (by simp) fun x T1 hx hT1 => ?_
  have hx' : ∃ s : Int, x = .int s ∧ 0 ≤ s ∧ s ≤ 99 := by
    simp only [List.mem_cons, List.not_mem_nil, or_false] at hx
    rcases hx with rfl | rfl | rfl | rfl | rfl | rfl | rfl <;> exact ⟨_, rfl, by decide, by decide⟩
  obtain ⟨s, rfl, s0, s1⟩ := hx'
  walk_at "ev"
  split
  · refine ⟨lit_mul (by decide), w__law_draw hT1 (by omega) (by omega) fun r T2 h2 h3 hT2 => ?_⟩
    walk_at "ev"
    refine h _ _ ?_ hT2
    unfold Sz
    omega
  · refine w__law_draw hT1 (by decide) (by decide) fun r1 T2 h2 h3 hT2 => ?_
    walk_at "ev"
    refine ⟨lit_mul' (by decide), w__law_draw hT2 (by decide) (by decide) fun r2 T3 h4 h5 hT3 => ?_⟩
    walk_at "ev"
    refine w__law_draw hT3 (by decide) (by decide) fun r3 T4 h6 h7 hT4 => ?_
    walk_at "ev"
    refine ⟨lit_mul (by decide), lit_mul' (by omega), h _ _ ?_ hT4⟩
    have : r3 = 0 ∨ r3 = 1 := by omega
    unfold Sz
    rcases this with rfl | rfl <;> omega

theorem w__law_rounds {T : Tk} {xs : List D} {k : KD} (h : ∀ r : Int, r = 2 ∨ r = 3 → k (.int r) T) : sm__law_rounds [.val (.scr xs)] T k := by
  rw [e__law_rounds, b__law_rounds]
  walk_at "ev"
  refine h _ ?_
  unfold iMax iMin
  split <;> split at * <;> omega
theorem w_tank_loop {F : En → Tk → Prop} {A B : Option SV} {T : Tk} : ∀ (ns : List Int) (s : Int) (c : Option SV), 0 ≤ s → (∀ s' c', 0 ≤ s' → F [A, B, some (.val (.int s')), c', none, none] T) →
    forL (gN 3) (sAsg (dOp (oF fMod) (dBlt (oG fInt) (aCons (dOp (oF fAdd) (dOp (oF fAdd) (dOp (oF fMul) (dVar 2) (dC (.int 51977))) (dOp (oF fMod) (dBlt (oG fInt) (aCons (dVar 3) (aNil))) (dC (.int 2147483629)))) (dC (.int 37))) (aNil))) (dC (.int 2147483629))) (gN 2)) { no0 with nx := F } (ns.map D.int) [A, B, some (.val (.int s)), c, none, none] T
  | [], s, c, h0, h => h s c h0
  | n :: ns, s, c, h0, h => by
    rw [List.map_cons]
    walk_at "ev"
    exact ⟨lit_mul' (by decide), w_tank_loop ns _ _ (Int.emod_nonneg _ (by decide)) h⟩
theorem w__law_tank {ns : List Int} {i : Int} {k : KD} (hi : 0 ≤ i) (h : ∀ T, TkOk T → k (.lst T) []) : sm__law_tank [.val (scrD ns), .val (.int i)] [] k := by
  rw [e__law_tank, b__law_tank, scrD]
  walk_at "ev"
  refine ⟨lit_mul (by decide), ?_, ?_⟩
  · have := List.length_take_le 9 (ns.map D.int); omega
  rw [← List.map_take]
  refine w_tank_loop _ _ _ (by omega) fun s c hs => ?_
  have hk : ∀ o : Int, (∀ p : Int, 0 ≤ p → k (.lst [.int p, .int ((s * 33013 + o % 2147483629 * 7001 + 3) % 2147483629), .int 0]) []) := fun o p hp => h _ ⟨_, _, _, rfl, hp, Int.emod_nonneg _ (by decide)⟩
  walk_at "ev"
  have hp : ∀ o : Int, 0 ≤ iAbs o := fun o => by unfold iAbs; split <;> omega
  have fin : ∀ o : Int, (if o < 0 then MulOk s 33013 ∧ MulOk (o % 2147483629) 7001 ∧ k (.lst [.int (iAbs o), .int ((s * 33013 + o % 2147483629 * 7001 + 3) % 2147483629), .int 0]) []
      else CPow 10 18 ∧ if 10 ^ Int.toNat 18 ≤ o then MulOk s 33013 ∧ MulOk (o % 2147483629) 7001 ∧ k (.lst [.int (iAbs o), .int ((s * 33013 + o % 2147483629 * 7001 + 3) % 2147483629), .int 0]) []
      else MulOk s 33013 ∧ MulOk (o % 2147483629) 7001 ∧ k (.lst [.int 0, .int ((s * 33013 + o % 2147483629 * 7001 + 3) % 2147483629), .int 0]) []) := by
    intro o
    have m1 : MulOk s 33013 := lit_mul' (by decide)
    have m2 : MulOk (o % 2147483629) 7001 := lit_mul' (by decide)
    split
    · exact ⟨m1, m2, hk o _ (by omega)⟩
    refine ⟨by unfold CPow; decide, ?_⟩
    split
    · exact ⟨m1, m2, hk o _ (by omega)⟩
    · exact ⟨m1, m2, hk o _ (Int.le_refl _)⟩
  split
  · rename_i hl
    obtain ⟨n, rfl⟩ := Int.eq_ofNat_of_zero_le hi
    rw [atI_nat', List.getElem?_map, List.getElem?_eq_getElem (by simpa using hl)]
    walk_at "ev"
    exact fin _
  · walk_at "ev"
    exact fin _

theorem w_is_whole {T : Tk} {i : Int} {k : KD} (h : k (.bl true) T) : sm_is_whole [.val (.int i)] T k := by
  rw [e_is_whole, b_is_whole]
  walk_at "ev"
  exact h
theorem w_are_wholes_2 {T : Tk} {i j : Int} {k : KD} (h : k (.bl true) T) : sm_are_wholes [.val (.tup [.int i, .int j]), .val (.int 2)] T k := by
  rw [e_are_wholes, b_are_wholes]
  walk_at "ev"
  refine w_is_whole (w_is_whole ?_)
  walk_at "ev"
  exact h
theorem w_is_complex {T : Tk} {a b : Int} {k : KD} (h : k (.bl true) T) : sm_is_complex [.val (.tup [.int a, .int b])] T k := by
  rw [e_is_complex, b_is_complex]
  walk_at "ev"
  exact w_are_wholes_2 h
theorem w_plus {T : Tk} {a b c d : Int} {k : KD} (h : k (.tup [.int (a + c), .int (b + d)]) T) : sm_plus [.val (.tup [.int a, .int b]), .val (.tup [.int c, .int d])] T k := by
  rw [e_plus, b_plus]
  walk_at "ev"
  exact h
theorem w_minus {T : Tk} {a b c d : Int} {k : KD} (h : k (.tup [.int (a - c), .int (b - d)]) T) : sm_minus [.val (.tup [.int a, .int b]), .val (.tup [.int c, .int d])] T k := by
  rw [e_minus, b_minus]
  walk_at "ev"
  exact h
theorem w_times {T : Tk} {a b c d : Int} {k : KD} (hz : Cz 100000 (a, b)) (hw : Cz 100000 (c, d)) (h : ∀ p, p = cmul (a, b) (c, d) → k (.tup [.int p.1, .int p.2]) T) : sm_times [.val (.tup [.int a, .int b]), .val (.tup [.int c, .int d])] T k := by
  rw [e_times, b_times]
  walk_at "ev"
  exact ⟨hz.1.mulOk hw.1 (by decide) (by decide), hz.2.mulOk hw.2 (by decide) (by decide), hz.1.mulOk hw.2 (by decide) (by decide), hz.2.mulOk hw.1 (by decide) (by decide), h _ rfl⟩
theorem w_turned_over {T : Tk} {a b : Int} {k : KD} (h : k (.tup [.int a, .int (-b)]) T) : sm_turned_over [.val (.tup [.int a, .int b])] T k := by
  rw [e_turned_over, b_turned_over]
  walk_at "ev"
  exact h
theorem w_square_size {T : Tk} {a b : Int} {k : KD} (hz : Cz 100000 (a, b)) (h : k (.int (cnrm (a, b))) T) : sm_square_size [.val (.tup [.int a, .int b])] T k := by
  rw [e_square_size, b_square_size]
  walk_at "ev"
  exact ⟨hz.1.mulOk hz.1 (by decide) (by decide), hz.2.mulOk hz.2 (by decide) (by decide), h⟩
def cunit (z : Cx2) : Cx2 := if 0 < z.1 ∧ 0 ≤ z.2 then (1, 0) else if 0 < -z.2 ∧ 0 ≤ z.1 then (0, 1) else if 0 < -z.1 ∧ 0 ≤ -z.2 then (-1, 0) else (0, -1)
theorem cz_unit {N : Nat} (hN : 1 ≤ N) {a b : Int} (ha : -1 ≤ a ∧ a ≤ 1) (hb : -1 ≤ b ∧ b ≤ 1) : Cz N (a, b) := by
  have t : (2 : Nat) ^ 1 ≤ 2 ^ N := Nat.pow_le_pow_right (by decide) hN
  constructor
  · show a.natAbs < 2 ^ N; omega
  · show b.natAbs < 2 ^ N; omega
theorem w_unit_for {T : Tk} {a b : Int} {k : KD} (hz : Cz 100000 (a, b)) (h : ∀ p, p = cunit (a, b) → k (.tup [.int p.1, .int p.2]) T) : sm_unit_for [.val (.tup [.int a, .int b])] T k := by
  rw [e_unit_for, b_unit_for, k_UNITS]
  walk_at "ev"
  have h1 : cmul (a, b) (1, 0) = (a, b) := by simp [cmul]
  have h2 : cmul (a, b) (0, 1) = (-b, a) := by simp [cmul]
  have h3 : cmul (a, b) (-1, 0) = (-a, -b) := by simp [cmul]
  have h0 := h _ rfl
  unfold cunit at h0
  simp only at h0
  refine w_times hz (cz_unit (by decide) (by decide) (by decide)) ?_
  rintro _ rfl
  rw [h1]
  walk_at "ev"
  split
  · rename_i c1; rw [if_pos c1] at h0; exact h0
  rename_i c1
  rw [if_neg c1] at h0
  refine w_times hz (cz_unit (by decide) (by decide) (by decide)) ?_
  rintro _ rfl
  rw [h2]
  walk_at "ev"
  split
  · rename_i c2; rw [if_pos c2] at h0; exact h0
  rename_i c2
  rw [if_neg c2] at h0
  refine w_times hz (cz_unit (by decide) (by decide) (by decide)) ?_
  rintro _ rfl
  rw [h3]
  walk_at "ev"
  split
  · rename_i c3; rw [if_pos c3] at h0; exact h0
  · rename_i c3; rw [if_neg c3] at h0; exact h0
def cdivd (z w : Cx2) : Option Cx2 := if (cmul z (cconj w)).1 % cnrm w = 0 ∧ (cmul z (cconj w)).2 % cnrm w = 0 then some ((cmul z (cconj w)).1 / cnrm w, (cmul z (cconj w)).2 / cnrm w) else none
def ocx : Option Cx2 → D
  | some z => .tup [.int z.1, .int z.2]
  | none => .non
theorem w_divided {T : Tk} {a b c d : Int} {k : KD} (hz : Cz 4000 (a, b)) (hw : Cz 4000 (c, d)) (h0 : 0 < cnrm (c, d)) (h : k (ocx (cdivd (a, b) (c, d))) T) : sm_divided [.val (.tup [.int a, .int b]), .val (.tup [.int c, .int d])] T k := by
  rw [e_divided, b_divided]
  walk_at "ev"
  refine w_turned_over ?_
  walk_at "ev"
  refine w_times (hz.mono (by decide)) (hw.conj.mono (by decide)) ?_
  rintro p rfl
  walk_at "ev"
  refine w_square_size (hw.mono (by decide)) ?_
  walk_at "ev"
  have hn : Sz 8001 (cnrm (c, d)) := hw.nrm
  unfold cdivd at h
  have e1 : cconj (c, d) = (c, -d) := rfl
  rw [e1] at h
  refine ⟨h0, ?_⟩
  by_cases q1 : (cmul (a, b) (c, -d)).1 % cnrm (c, d) = 0
  · rw [if_neg (not_not_intro q1)]
    refine ⟨h0, ?_⟩
    by_cases q2 : (cmul (a, b) (c, -d)).2 % cnrm (c, d) = 0
    · rw [if_neg (not_not_intro q2)]
      rw [if_pos ⟨q1, q2⟩] at h
      exact ⟨hn.divOk (by decide) h0, hn.divOk (by decide) h0, h⟩
    · rw [if_pos q2]
      rw [if_neg fun e => q2 e.2] at h
      exact h
  · rw [if_pos q1]
    rw [if_neg fun e => q1 e.1] at h
    exact h
theorem cnrm_pos {w : Cx2} (h : ¬(w.1 = 0 ∧ w.2 = 0)) : 0 < cnrm w := by
  unfold cnrm
  have h1 : 0 ≤ w.1 * w.1 := mul_self_nonneg' w.1
  have h2 : 0 ≤ w.2 * w.2 := mul_self_nonneg' w.2
  by_cases q : w.1 = 0
  · have : w.2 ≠ 0 := fun e => h ⟨q, e⟩
    have := imul_self_pos this
    omega
  · have := imul_self_pos q
    omega
theorem w__law_less {T : Tk} {a b c d : Int} {k : KD} (h : ∀ p, p = csub (a, b) (c, d) → k (.tup [.int p.1, .int p.2]) T) : sm__law_less [.val (.tup [.int a, .int b]), .val (.tup [.int c, .int d])] T k := by
  rw [e__law_less, b__law_less]
  walk_at "ev"
  exact h _ rfl
theorem w__law_times {T : Tk} {a b c d : Int} {k : KD} (hz : Cz 100000 (a, b)) (hw : Cz 100000 (c, d)) (h : ∀ p, p = cmul (a, b) (c, d) → k (.tup [.int p.1, .int p.2]) T) : sm__law_times [.val (.tup [.int a, .int b]), .val (.tup [.int c, .int d])] T k := by
  rw [e__law_times, b__law_times]
  walk_at "ev"
  exact ⟨hz.1.mulOk hw.1 (by decide) (by decide), hz.2.mulOk hw.2 (by decide) (by decide), hz.1.mulOk hw.2 (by decide) (by decide), hz.2.mulOk hw.1 (by decide) (by decide), h _ rfl⟩
theorem w__law_star {T : Tk} {a b : Int} {k : KD} (h : k (.tup [.int a, .int (-b)]) T) : sm__law_star [.val (.tup [.int a, .int b])] T k := by
  rw [e__law_star, b__law_star]
  walk_at "ev"
  rw [Int.zero_sub]
  exact h
theorem w__law_size {T : Tk} {a b : Int} {k : KD} (hz : Cz 100000 (a, b)) (h : k (.int (cnrm (a, b))) T) : sm__law_size [.val (.tup [.int a, .int b])] T k := by
  rw [e__law_size, b__law_size]
  walk_at "ev"
  exact ⟨hz.1.mulOk hz.1 (by decide) (by decide), hz.2.mulOk hz.2 (by decide) (by decide), h⟩
theorem sz_0 {n : Nat} : Sz n 0 := Nat.two_pow_pos n

def gcdL (g : Int) : List Int → Int
  | [] => g | n :: r => gcdL (iGcd g n) r
theorem iGcd_nn (a b : Int) : 0 ≤ iGcd a b := Int.natCast_nonneg _
theorem gcdL_nn : ∀ (ns : List Int) (g : Int), 0 ≤ g → 0 ≤ gcdL g ns
  | [], _, h => h
  | n :: r, g, _ => gcdL_nn r _ (iGcd_nn g n)
theorem iGcd_dvd_l (a b : Int) : iGcd a b ∣ a := Int.natAbs_dvd_natAbs.mp (by rw [Int.natAbs_natCast]; exact Nat.gcd_dvd_left _ _)
theorem iGcd_dvd_r (a b : Int) : iGcd a b ∣ b := Int.natAbs_dvd_natAbs.mp (by rw [Int.natAbs_natCast]; exact Nat.gcd_dvd_right _ _)
theorem gcdL_dvd0 : ∀ (ns : List Int) (g : Int), gcdL g ns ∣ g
  | [], g => Int.dvd_refl g
  | n :: r, g => Int.dvd_trans (gcdL_dvd0 r _) (iGcd_dvd_l g n)
theorem gcdL_dvd : ∀ (ns : List Int) (g : Int), ∀ n ∈ ns, gcdL g ns ∣ n
  | [], _, _, h => by simp at h
  | m :: r, g, n, h => by
    rcases List.mem_cons.mp h with rfl | h
    · exact Int.dvd_trans (gcdL_dvd0 r _) (iGcd_dvd_r g n)
    · exact gcdL_dvd r _ n h
theorem gcdL_pos {ns : List Int} {n : Int} (hn : n ∈ ns) (h0 : n ≠ 0) : 0 < gcdL 0 ns := by
  have h1 := gcdL_nn ns 0 (Int.le_refl _)
  have h2 := gcdL_dvd ns 0 n hn
  rcases Int.lt_or_eq_of_le h1 with q | q
  · exact q
  · rw [← q] at h2
    exact absurd (Int.zero_dvd.mp h2) h0
def lowL (ns : List Int) : List Int := ns.map (· / gcdL 0 ns)
/-- a common divisor is no longer than a number it divides -/
theorem sz_dvd {m : Nat} {g n : Int} (h : g ∣ n) (h0 : n ≠ 0) (s : Sz m n) : Sz m g := by
  have := Nat.le_of_dvd (Int.natAbs_pos.mpr h0) (Int.natAbs_dvd_natAbs.mpr h)
  unfold Sz at *
  omega
theorem lc_div {A : Option SV} {B : En} {g : Int} {K : List D → Tk → Prop} (hg : ∀ i, DivOk i g) : ∀ (ns : List Int) (c : Option SV) (acc : List D) (T : Tk), K (acc ++ (ns.map (· / g)).map D.int) T →
    lcD (A :: some (.val (.int g)) :: c :: B) (cN 2) dYes (dOp (oF fDiv) (dVar 2) (dVar 1)) K (ns.map D.int) acc T
  | [], c, acc, T, h => by
    rw [List.map_nil, List.map_nil, List.append_nil] at h
    exact h
  | n :: ns, c, acc, T, h => by
    rw [List.map_cons]
    walk_at "ev"
    refine ⟨hg _, lc_div hg ns _ _ _ ?_⟩
    rw [List.append_assoc]
    exact h
theorem div_loop {A : Option SV} {F B C : En → Tk → Prop} {R : KD} {T : Tk} : ∀ (ns : List Int) (g : Int) (c : Option SV), (∀ c', F [A, some (.val (.int (gcdL g ns))), c'] T) →
    forL (gN 2) (sAsg (dBlt (oG (fI2 iGcd)) (aCons (dVar 1) (aCons (dVar 2) (aNil)))) (gN 1)) { nx := F, rt := R, bk := B, ct := C } (ns.map D.int) [A, some (.val (.int g)), c] T
  | [], g, c, h => h c
  | n :: ns, g, c, h => by
    rw [List.map_cons]
    walk_at "ev"
    exact div_loop ns _ _ h
theorem w_divisor_of {T : Tk} {ns : List Int} {k : KD} (hl : ns.length ≤ 1000000) (h : k (.int (gcdL 0 ns)) T) : sm_divisor_of [.val (.tup (ns.map D.int))] T k := by
  rw [e_divisor_of, b_divisor_of]
  walk_at "ev"
  refine ⟨by simpa using hl, ?_⟩
  refine div_loop ns 0 _ fun c => ?_
  walk_at "ev"
  exact h
theorem w_lowest {T : Tk} {ns : List Int} {k : KD} (hl : ns.length ≤ 1000000) {n : Int} (hn : n ∈ ns) (h0 : n ≠ 0) (hs : Sz 9000 n) (h : k (.tup ((lowL ns).map D.int)) T) : sm_lowest [.val (.tup (ns.map D.int))] T k := by
  rw [e_lowest, b_lowest]
  walk_at "ev"
  refine w_divisor_of hl ?_
  walk_at "ev"
  refine ⟨by simpa using hl, ?_⟩
  have hp := gcdL_pos hn h0
  have hd := sz_dvd (gcdL_dvd ns 0 n hn) h0 hs
  refine lc_div (fun i => hd.divOk (Nat.le_refl _) hp) ns _ _ _ ?_
  walk_at "ev"
  exact h
theorem w_is_lowest {T : Tk} {ns : List Int} {k : KD} (hl : ns.length ≤ 1000000) (h : k (.bl (decide (gcdL 0 ns = 1))) T) : sm_is_lowest [.val (.tup (ns.map D.int))] T k := by
  rw [e_is_lowest, b_is_lowest]
  walk_at "ev"
  refine w_divisor_of hl ?_
  walk_at "ev"
  exact h
theorem iGcd_mod {a b : Int} (ha : 0 ≤ a) (hb : 0 < b) : iGcd b (a % b) = iGcd a b := by
  obtain ⟨x, rfl⟩ := Int.eq_ofNat_of_zero_le ha
  obtain ⟨y, rfl⟩ := Int.eq_ofNat_of_zero_le (Int.le_of_lt hb)
  show ((Nat.gcd _ _ : Nat) : Int) = ((Nat.gcd _ _ : Nat) : Int)
  rw [← Int.natCast_emod, Int.natAbs_natCast, Int.natAbs_natCast, Int.natAbs_natCast, Nat.gcd_comm x y, Nat.gcd_rec y x, Nat.gcd_comm]
theorem iGcd_zero {a : Int} (h : 0 ≤ a) : iGcd a 0 = a := by
  show ((Nat.gcd _ _ : Nat) : Int) = a
  rw [Int.natAbs_zero, Nat.gcd_zero_right]
  omega
theorem iGcd_abs (a b : Int) : iGcd a (iAbs b) = iGcd a b := by
  show ((Nat.gcd _ _ : Nat) : Int) = ((Nat.gcd _ _ : Nat) : Int)
  have : (iAbs b).natAbs = b.natAbs := by unfold iAbs; split <;> omega
  rw [this]
theorem iAbs_nn (a : Int) : 0 ≤ iAbs a := by unfold iAbs; split <;> omega
theorem euclid_loop {E : dEnds} {A P N : Option SV} {T : Tk} {l r : Int} (hl : 0 ≤ l) (hr : 0 ≤ r) (h : ∀ r', E.nx [A, P, N, some (.val (.int (iGcd l r))), r'] T) :
    sWhile (dTst (dOp (oF fGt) (dVar 4) (dC (.int 0)))) (sPar 3 4 (aCons (dVar 4) (aCons (dOp (oF fMod) (dBlt (oG fInt) (aCons (dVar 3) (aNil))) (dVar 4)) (aNil)))) E [A, P, N, some (.val (.int l)), some (.val (.int r))] T := by
  unfold sWhile
  refine ⟨fun m ρ T' => T' = T ∧ ∃ l' r' : Int, 0 ≤ l' ∧ 0 ≤ r' ∧ m = r'.toNat ∧ iGcd l' r' = iGcd l r ∧ ρ = [A, P, N, some (.val (.int l')), some (.val (.int r'))], ⟨_, rfl, l, r, hl, hr, rfl, rfl, rfl⟩, ?_⟩
  rintro m ρ T' ⟨rfl, l', r', h1, h2, rfl, h4, rfl⟩
  walk_at "ev"
  split
  · rename_i q
    have q : 0 < r' := by simpa using q
    refine ⟨q, (l' % r').toNat, ?_, r', l' % r', h2, Int.emod_nonneg _ (by omega), rfl, ?_, rfl⟩
    · have := Int.emod_lt_of_pos l' q
      omega
    · rw [← h4, iGcd_mod h1 q]
  · rename_i q
    have q : r' = 0 := by have : ¬ 0 < r' := by simpa using q
                          omega
    subst q
    have := h (some (.val (.int 0)))
    rw [← h4, iGcd_zero h1] at this
    exact this
theorem least_loop {F B C : En → Tk → Prop} {R : KD} {A : Option SV} {T : Tk} : ∀ (ns : List Int) (g : Int) (c d e : Option SV), 0 ≤ g → (∀ c' d' e', F [A, some (.val (.int (gcdL g ns))), c', d', e'] T) →
    forL (gN 2) (sSeq (sPar 3 4 (aCons (dVar 1) (aCons (dBlt (oG (fI1 iAbs)) (aCons (dVar 2) (aNil))) (aNil)))) (sSeq (sWhile (dTst (dOp (oF fGt) (dVar 4) (dC (.int 0)))) (sPar 3 4 (aCons (dVar 4) (aCons (dOp (oF fMod) (dBlt (oG fInt) (aCons (dVar 3) (aNil))) (dVar 4)) (aNil))))) (sAsg (dVar 3) (gN 1)))) { nx := F, rt := R, bk := B, ct := C } (ns.map D.int) [A, some (.val (.int g)), c, d, e] T
  | [], g, c, d, e, hg, h => h c d e
  | n :: ns, g, c, d, e, hg, h => by
    rw [List.map_cons]
    walk_at "ev"
    refine euclid_loop hg (iAbs_nn n) fun r' => ?_
    walk_at "ev"
    rw [iGcd_abs]
    exact least_loop ns _ _ _ _ (iGcd_nn _ _) h
theorem w__law_least {T : Tk} {ns : List Int} {k : KD} (hl : ns.length ≤ 1000000) {n : Int} (hn : n ∈ ns) (h0 : n ≠ 0) (hs : Sz 9000 n) (h : k (.tup ((lowL ns).map D.int)) T) : sm__law_least [.val (.tup (ns.map D.int))] T k := by
  rw [e__law_least, b__law_least]
  walk_at "ev"
  refine ⟨by simpa using hl, ?_⟩
  refine least_loop ns 0 _ _ _ (Int.le_refl _) fun c d e => ?_
  walk_at "ev"
  refine ⟨by simpa using hl, ?_⟩
  have hp := gcdL_pos hn h0
  have hd := sz_dvd (gcdL_dvd ns 0 n hn) h0 hs
  refine lc_div (fun i => hd.divOk (Nat.le_refl _) hp) ns _ _ _ ?_
  exact h

theorem gcdL_scale {c : Int} (hc : 0 ≤ c) : ∀ (ns : List Int) (g : Int), 0 ≤ g → gcdL (c * g) (ns.map (c * ·)) = c * gcdL g ns
  | [], g, _ => rfl
  | n :: r, g, hg => by
    rw [List.map_cons]
    show gcdL (iGcd (c * g) (c * n)) _ = c * gcdL (iGcd g n) r
    have e : iGcd (c * g) (c * n) = c * iGcd g n := by
      show ((Nat.gcd _ _ : Nat) : Int) = c * ((Nat.gcd _ _ : Nat) : Int)
      rw [Int.natAbs_mul, Int.natAbs_mul, Nat.gcd_mul_left]
      rw [Int.natCast_mul]
      congr 1
      omega
    rw [e]
    exact gcdL_scale hc r _ (iGcd_nn _ _)
theorem lowL_scale {c : Int} (hc : 0 < c) (ns : List Int) : lowL (ns.map (c * ·)) = lowL ns := by
  unfold lowL
  have e := gcdL_scale (Int.le_of_lt hc) ns 0 (Int.le_refl _)
  rw [Int.mul_zero] at e
  rw [e, List.map_map]
  apply List.map_congr_left
  intro n _
  show c * n / (c * gcdL 0 ns) = n / gcdL 0 ns
  exact Int.mul_ediv_mul_of_pos _ _ hc
theorem lowL_same {c d : Int} (hc : 0 < c) (hd : 0 < d) {ns ms : List Int} (h : ns.map (c * ·) = ms.map (d * ·)) : lowL ns = lowL ms := by rw [← lowL_scale hc ns, h, lowL_scale hd ms]
theorem lowL_back {ns : List Int} : (lowL ns).map (gcdL 0 ns * ·) = ns := by
  unfold lowL
  rw [List.map_map]
  conv => rhs; rw [← List.map_id ns]
  apply List.map_congr_left
  intro n hn
  exact Int.mul_ediv_cancel' (gcdL_dvd ns 0 n hn)
theorem lowL_gcd {ns : List Int} (h : 0 < gcdL 0 ns) : gcdL 0 (lowL ns) = 1 := by
  have e := gcdL_scale (Int.le_of_lt h) (lowL ns) 0 (Int.le_refl _)
  rw [Int.mul_zero, lowL_back] at e
  have e' : gcdL 0 ns * 1 = gcdL 0 ns * gcdL 0 (lowL ns) := by rw [Int.mul_one]; exact e
  exact (Int.eq_of_mul_eq_mul_left (by omega) e').symm
theorem lowL_one {ns : List Int} (h : gcdL 0 ns = 1) : lowL ns = ns := by
  unfold lowL
  rw [h]
  conv => rhs; rw [← List.map_id ns]
  apply List.map_congr_left
  intro n _
  exact Int.ediv_one n
theorem gcd_uniq {c d : Int} (hc : 0 < c) (hd : 0 < d) {ns ms : List Int} (h1 : gcdL 0 ns = 1) (h2 : gcdL 0 ms = 1) (h : ns.map (c * ·) = ms.map (d * ·)) : ns = ms := by
  rw [← lowL_one h1, ← lowL_one h2]
  exact lowL_same hc hd h
abbrev P3 := Int × Int × Int
def P3.d (q : P3) : D := .tup [.int q.1, .int q.2.1, .int q.2.2]
/-- a place by its two rational coordinates -/
structure PlQ (n : Nat) (q : P3) (u v : Rat) : Prop where
  pos : 0 < q.2.2
  one : gcdL 0 [q.1, q.2.1, q.2.2] = 1
  s1 : Sz n q.1
  s2 : Sz n q.2.1
  s3 : Sz n q.2.2
  e1 : (q.1 : Rat) = u * (q.2.2 : Rat)
  e2 : (q.2.1 : Rat) = v * (q.2.2 : Rat)
theorem PlQ.mono {m n : Nat} {q : P3} {u v : Rat} (h : PlQ m q u v) (l : m ≤ n) : PlQ n q u v := ⟨h.pos, h.one, h.s1.mono l, h.s2.mono l, h.s3.mono l, h.e1, h.e2⟩
theorem cast_inj {a b : Int} (h : (a : Rat) = (b : Rat)) : a = b := Rat.intCast_inj.mp h
theorem PlQ.uniq {m n : Nat} {p q : P3} {u v : Rat} (h : PlQ m p u v) (h' : PlQ n q u v) : p = q := by
  obtain ⟨a, b, c⟩ := p
  obtain ⟨a', b', c'⟩ := q
  obtain ⟨p1, o1, _, _, _, x1, y1⟩ := h
  obtain ⟨p2, o2, _, _, _, x2, y2⟩ := h'
  simp only at *
  have q1 : c' * a = c * a' := cast_inj (by push_cast; rw [x1, x2]; grind)
  have q2 : c' * b = c * b' := cast_inj (by push_cast; rw [y1, y2]; grind)
  have := gcd_uniq p2 p1 o1 o2 (show [a, b, c].map (c' * ·) = [a', b', c'].map (c * ·) by simp [q1, q2, Int.mul_comm])
  simpa using this
theorem plq_low {n : Nat} {x y z : Int} {u v : Rat} (hz : 0 < z) (s1 : Sz n x) (s2 : Sz n y) (s3 : Sz n z) (e1 : (x : Rat) = u * z) (e2 : (y : Rat) = v * z) : PlQ n (x / gcdL 0 [x, y, z], y / gcdL 0 [x, y, z], z / gcdL 0 [x, y, z]) u v := by
  have hp : 0 < gcdL 0 [x, y, z] := gcdL_pos (n := z) (by simp) (by omega)
  have hb := lowL_back (ns := [x, y, z])
  have ho := lowL_gcd hp
  unfold lowL at hb ho
  generalize gcdL 0 [x, y, z] = g at *
  simp only [List.map_cons, List.map_nil, List.cons.injEq, and_true] at hb ho
  obtain ⟨b1, b2, b3⟩ := hb
  have gz : (g : Rat) ≠ 0 := fun e => by have := cast_inj (b := 0) e; omega
  have c1 : (g : Rat) * ((x / g : Int) : Rat) = x := by rw [← Rat.intCast_mul, b1]
  have c2 : (g : Rat) * ((y / g : Int) : Rat) = y := by rw [← Rat.intCast_mul, b2]
  have c3 : (g : Rat) * ((z / g : Int) : Rat) = z := by rw [← Rat.intCast_mul, b3]
  refine ⟨?_, ho, s1.ediv, s2.ediv, s3.ediv, ?_, ?_⟩
  · rcases Int.lt_or_le 0 (z / g) with q | q
    · exact q
    · have := Int.mul_nonpos_of_nonneg_of_nonpos (Int.le_of_lt hp) q
      omega
  · simp only; generalize ((x / g : Int) : Rat) = X at *; generalize ((z / g : Int) : Rat) = Z at *; grind
  · simp only; generalize ((y / g : Int) : Rat) = X at *; generalize ((z / g : Int) : Rat) = Z at *; grind
theorem w_low3 {T : Tk} {n : Nat} {x y z : Int} {u v : Rat} {k : KD} (hz : 0 < z) (s1 : Sz n x) (s2 : Sz n y) (s3 : Sz n z) (hn : n ≤ 9000) (e1 : (x : Rat) = u * z) (e2 : (y : Rat) = v * z) (h : ∀ q : P3, PlQ n q u v → k (.tup [.int q.1, .int q.2.1, .int q.2.2]) T) : sm_lowest [.val (.tup [.int x, .int y, .int z])] T k :=
  w_lowest (ns := [x, y, z]) (by simp) (n := z) (by simp) (by omega) (s3.mono hn) (h _ (plq_low hz s1 s2 s3 e1 e2))
theorem w_least3 {T : Tk} {n : Nat} {x y z : Int} {u v : Rat} {k : KD} (hz : 0 < z) (s1 : Sz n x) (s2 : Sz n y) (s3 : Sz n z) (hn : n ≤ 9000) (e1 : (x : Rat) = u * z) (e2 : (y : Rat) = v * z) (h : ∀ q : P3, PlQ n q u v → k (.tup [.int q.1, .int q.2.1, .int q.2.2]) T) : sm__law_least [.val (.tup [.int x, .int y, .int z])] T k :=
  w__law_least (ns := [x, y, z]) (by simp) (n := z) (by simp) (by omega) (s3.mono hn) (h _ (plq_low hz s1 s2 s3 e1 e2))
theorem w_are_wholes_3 {T : Tk} {i j l : Int} {k : KD} (h : k (.bl true) T) : sm_are_wholes [.val (.tup [.int i, .int j, .int l]), .val (.int 3)] T k := by
  rw [e_are_wholes, b_are_wholes]
  walk_at "ev"
  refine w_is_whole ?_
  walk_at "ev"
  refine w_is_whole ?_
  walk_at "ev"
  refine w_is_whole ?_
  walk_at "ev"
  exact h
theorem ok_p3 {a b c : Int} : (D.tup [.int a, .int b, .int c]).eqOk := ⟨rfl, rfl⟩
theorem w_is_place {T : Tk} {a b c : Int} {k : KD} (h0 : 0 < c) (h1 : gcdL 0 [a, b, c] = 1) (h : k (.bl true) T) : sm_is_place [.val (.tup [.int a, .int b, .int c])] T k := by
  rw [e_is_place, b_is_place, k_FAR]
  walk_at "ev"
  refine w_are_wholes_3 ?_
  walk_at "ev"
  refine ⟨⟨ok_p3, ok_p3⟩, ?_⟩
  rw [if_neg (by omega), if_pos h0]
  refine w_is_lowest (ns := [a, b, c]) (by simp) ?_
  rw [h1]
  exact h
theorem PlQ.ne {n : Nat} {p : P3} {u v : Rat} (h : PlQ n p u v) : (p.2.2 : Rat) ≠ 0 := fun e => by have := cast_inj (b := 0) e; have := h.pos; omega
theorem PlQ.e1' {n : Nat} {p : P3} {u v : Rat} (h : PlQ n p u v) : ((p.1 : Int) : Rat) = u * ((p.2.2 : Int) : Rat) := h.e1
theorem lite_pl {n : Nat} {p : P3} {u v : Rat} (h : PlQ n p u v) (l : n ≤ 1900) : (D.tup [.int p.1, .int p.2.1, .int p.2.2]).lite := lite_tup (liteL_cons (h.s1.lite l) (liteL_cons (h.s2.lite l) (liteL_cons (h.s3.lite l) liteL_nil)))
/-- a fraction by its value -/
structure FrQ (n : Nat) (q : Int × Int) (u : Rat) : Prop where
  pos : 0 < q.2
  one : gcdL 0 [q.1, q.2] = 1
  s1 : Sz n q.1
  s2 : Sz n q.2
  e1 : (q.1 : Rat) = u * (q.2 : Rat)
theorem FrQ.uniq {m n : Nat} {p q : Int × Int} {u : Rat} (h : FrQ m p u) (h' : FrQ n q u) : p = q := by
  obtain ⟨a, c⟩ := p
  obtain ⟨a', c'⟩ := q
  obtain ⟨p1, o1, _, _, x1⟩ := h
  obtain ⟨p2, o2, _, _, x2⟩ := h'
  simp only at *
  have q1 : c' * a = c * a' := cast_inj (by push_cast; rw [x1, x2]; grind)
  have := gcd_uniq p2 p1 o1 o2 (show [a, c].map (c' * ·) = [a', c'].map (c * ·) by simp [q1, Int.mul_comm])
  simpa using this
def fnz : List Int → Int
  | [] => 0
  | x :: r => if x = 0 then fnz r else x
abbrev R4 := Int × Int × Int × Int
def bnd (r : R4) : Int := r.2.1 * r.2.1 + r.2.2.1 * r.2.2.1 - 4 * r.1 * r.2.2.2
structure Rw (n : Nat) (r : R4) : Prop where
  one : gcdL 0 [r.1, r.2.1, r.2.2.1, r.2.2.2] = 1
  bend : 0 < bnd r
  s1 : Sz n r.1
  s2 : Sz n r.2.1
  s3 : Sz n r.2.2.1
  s4 : Sz n r.2.2.2
structure Rd (n : Nat) (r : R4) : Prop extends Rw n r where
  up : 0 < fnz [r.1, r.2.1, r.2.2.1, r.2.2.2]
theorem Rw.mono {m n : Nat} {r : R4} (h : Rw m r) (l : m ≤ n) : Rw n r := ⟨h.one, h.bend, h.s1.mono l, h.s2.mono l, h.s3.mono l, h.s4.mono l⟩
theorem Rd.mono {m n : Nat} {r : R4} (h : Rd m r) (l : m ≤ n) : Rd n r := ⟨h.toRw.mono l, h.up⟩
theorem sz_4 : Sz 3 4 := by unfold Sz; decide
theorem Rd.pos {n : Nat} {r : R4} (h : Rd n r) (h0 : r.1 ≠ 0) : 0 < r.1 := by
  have := h.up
  unfold fnz at this
  rw [if_neg h0] at this
  exact this
theorem w_bend {T : Tk} {n : Nat} {a b c d : Int} {k : KD} (s1 : Sz n a) (s2 : Sz n b) (s3 : Sz n c) (s4 : Sz n d) (hn : n ≤ 8000) (h : k (.int (bnd (a, b, c, d))) T) : sm_bend [.val (.tup [.int a, .int b, .int c, .int d])] T k := by
  rw [e_bend, b_bend]
  walk_at "ev"
  exact ⟨s2.mulOk s2 (by omega) (by omega), s3.mulOk s3 (by omega) (by omega), lit_mul (by decide), (sz_4.mul s1).mulOk s4 (by omega) (by omega), h⟩
theorem w_are_wholes_4 {T : Tk} {i j l m : Int} {k : KD} (h : k (.bl true) T) : sm_are_wholes [.val (.tup [.int i, .int j, .int l, .int m]), .val (.int 4)] T k := by
  rw [e_are_wholes, b_are_wholes]
  walk_at "ev"
  refine w_is_whole ?_
  walk_at "ev"
  refine w_is_whole ?_
  walk_at "ev"
  refine w_is_whole ?_
  walk_at "ev"
  refine w_is_whole ?_
  walk_at "ev"
  exact h
theorem w_is_row {T : Tk} {n : Nat} {r : R4} {k : KD} (hr : Rw n r) (hn : n ≤ 8000) (h : k (.bl true) T) : sm_is_row [.val (.tup [.int r.1, .int r.2.1, .int r.2.2.1, .int r.2.2.2])] T k := by
  rw [e_is_row, b_is_row]
  walk_at "ev"
  refine w_are_wholes_4 ?_
  walk_at "ev"
  refine w_is_lowest (ns := [r.1, r.2.1, r.2.2.1, r.2.2.2]) (by simp) ?_
  rw [hr.one]
  walk_at "ev"
  refine w_bend hr.s1 hr.s2 hr.s3 hr.s4 hn ?_
  walk_at "ev"
  rw [decide_eq_true hr.bend]
  exact h
theorem w_is_led_up4 {T : Tk} {a b c d : Int} {k : KD} (h : k (.bl (decide (0 < fnz [a, b, c, d]))) T) : sm_is_led_up [.val (.tup [.int a, .int b, .int c, .int d])] T k := by
  rw [e_is_led_up, b_is_led_up]
  walk_at "ev"
  unfold fnz fnz fnz fnz fnz at h
  by_cases h1 : a = 0
  · rw [if_neg (not_not_intro h1)]
    rw [if_pos h1] at h
    by_cases h2 : b = 0
    · rw [if_neg (not_not_intro h2)]
      rw [if_pos h2] at h
      by_cases h3 : c = 0
      · rw [if_neg (not_not_intro h3)]
        rw [if_pos h3] at h
        by_cases h4 : d = 0
        · rw [if_neg (not_not_intro h4)]
          rw [if_pos h4] at h
          exact h
        · rw [if_pos h4]
          rw [if_neg h4] at h
          exact h
      · rw [if_pos h3]
        rw [if_neg h3] at h
        exact h
    · rw [if_pos h2]
      rw [if_neg h2] at h
      exact h
  · rw [if_pos h1]
    rw [if_neg h1] at h
    exact h
theorem w_is_round {T : Tk} {n : Nat} {r : R4} {k : KD} (hr : Rd n r) (hn : n ≤ 8000) (h : k (.bl true) T) : sm_is_round [.val (.tup [.int r.1, .int r.2.1, .int r.2.2.1, .int r.2.2.2])] T k := by
  rw [e_is_round, b_is_round]
  walk_at "ev"
  refine w_is_row hr.toRw hn ?_
  walk_at "ev"
  refine w_is_led_up4 ?_
  rw [decide_eq_true hr.up]
  exact h
theorem w_check_round {rk : RK} {T : Tk} {n : Nat} {r : R4} {k : KD} (hr : Rd n r) (hn : n ≤ 8000) (h : k .non T) : se_check_round rk [.val (.tup [.int r.1, .int r.2.1, .int r.2.2.1, .int r.2.2.2])] T k := by
  rw [ex_check_round, b_check_round]
  walk_at "wk"
  refine w_is_round hr hn ?_
  walk_at "wk"
  exact h
def val4 (r : R4) (p : P3) : Int := r.1 * (p.1 * p.1 + p.2.1 * p.2.1) + r.2.1 * p.1 * p.2.2 + r.2.2.1 * p.2.1 * p.2.2 + r.2.2.2 * p.2.2 * p.2.2
theorem lc_filt {A : Option SV} {B : En} {K : List D → Tk → Prop} : ∀ (ns : List Int) (c : Option SV) (acc : List D) (T : Tk), K (acc ++ (ns.filter fun x => !decide (x = 0)).map D.int) T →
    lcD (A :: c :: B) (cN 1) (dTst (dOp (oF fNe) (dVar 1) (dC (.int 0)))) (dVar 1) K (ns.map D.int) acc T
  | [], c, acc, T, h => by
    rw [List.filter_nil, List.map_nil, List.append_nil] at h
    exact h
  | n :: ns, c, acc, T, h => by
    rw [List.map_cons]
    walk_at "ev"
    by_cases q : n = 0
    · rw [if_neg (not_not_intro q)]
      rw [List.filter_cons_of_neg (by simp [q])] at h
      exact lc_filt ns _ _ _ h
    · rw [if_pos q]
      rw [List.filter_cons_of_pos (by simp [q]), List.map_cons] at h
      refine lc_filt ns _ _ _ ?_
      rw [List.append_assoc]
      exact h
theorem lc_neg {A : Option SV} {B : En} {K : List D → Tk → Prop} : ∀ (ns : List Int) (c : Option SV) (acc : List D) (T : Tk), K (acc ++ (ns.map fun x => 0 - x).map D.int) T →
    lcD (A :: c :: B) (cN 1) dYes (dOp (oF fSub) (dC (.int 0)) (dVar 1)) K (ns.map D.int) acc T
  | [], c, acc, T, h => by
    rw [List.map_nil, List.map_nil, List.append_nil] at h
    exact h
  | n :: ns, c, acc, T, h => by
    rw [List.map_cons]
    walk_at "ev"
    refine lc_neg ns _ _ _ ?_
    rw [List.append_assoc]
    exact h
theorem filt_head : ∀ (ns : List Int), fnz ns ≠ 0 → ((ns.filter fun x => !decide (x = 0)).map D.int)[0]? = some (.int (fnz ns))
  | [], h => absurd rfl h
  | n :: r, h => by
    unfold fnz at h ⊢
    by_cases q : n = 0
    · rw [if_pos q] at h ⊢
      rw [List.filter_cons_of_neg (by simp [q])]
      exact filt_head r h
    · rw [if_neg q]
      rw [List.filter_cons_of_pos (by simp [q])]
      rfl
theorem fnz_neg : ∀ ns : List Int, fnz (ns.map fun x => 0 - x) = - fnz ns
  | [] => rfl
  | n :: r => by
    rw [List.map_cons]
    unfold fnz
    by_cases q : n = 0
    · rw [if_pos q, if_pos (by omega)]; exact fnz_neg r
    · rw [if_neg q, if_neg (by omega)]; omega
theorem fnz_zero : ∀ ns : List Int, fnz ns = 0 → ∀ n ∈ ns, n = 0
  | [], _, _, h => by simp at h
  | m :: r, h, n, hn => by
    unfold fnz at h
    by_cases q : m = 0
    · rw [if_pos q] at h
      rcases List.mem_cons.mp hn with e | e
      · rw [e]; exact q
      · exact fnz_zero r h n e
    · rw [if_neg q] at h
      exact absurd h q
theorem gcdL_neg : ∀ (ns : List Int) (g : Int), gcdL g (ns.map fun x => 0 - x) = gcdL g ns
  | [], g => rfl
  | n :: r, g => by
    rw [List.map_cons]
    show gcdL (iGcd g (0 - n)) _ = gcdL (iGcd g n) r
    have e : iGcd g (0 - n) = iGcd g n := by
      show ((Nat.gcd _ _ : Nat) : Int) = ((Nat.gcd _ _ : Nat) : Int)
      rw [Int.zero_sub, Int.natAbs_neg]
    rw [e]
    exact gcdL_neg r _
/-- a row with its bend, lowest: what is known -/
theorem low_row {n : Nat} {a b c d : Int} (h0 : 0 < bnd (a, b, c, d)) (s1 : Sz n a) (s2 : Sz n b) (s3 : Sz n c) (s4 : Sz n d) : 0 < gcdL 0 [a, b, c, d] ∧ a = gcdL 0 [a, b, c, d] * (a / gcdL 0 [a, b, c, d]) ∧ b = gcdL 0 [a, b, c, d] * (b / gcdL 0 [a, b, c, d]) ∧ c = gcdL 0 [a, b, c, d] * (c / gcdL 0 [a, b, c, d]) ∧ d = gcdL 0 [a, b, c, d] * (d / gcdL 0 [a, b, c, d]) ∧ Rw n (a / gcdL 0 [a, b, c, d], b / gcdL 0 [a, b, c, d], c / gcdL 0 [a, b, c, d], d / gcdL 0 [a, b, c, d]) := by
  have hp : 0 < gcdL 0 [a, b, c, d] := by
    by_cases hb : b = 0
    · by_cases hc : c = 0
      · by_cases ha : a = 0
        · exfalso; subst ha hb hc; unfold bnd at h0; simp at h0
        · exact gcdL_pos (n := a) (by simp) ha
      · exact gcdL_pos (n := c) (by simp) hc
    · exact gcdL_pos (n := b) (by simp) hb
  have hb := lowL_back (ns := [a, b, c, d])
  have ho := lowL_gcd hp
  unfold lowL at hb ho
  generalize gcdL 0 [a, b, c, d] = g at *
  simp only [List.map_cons, List.map_nil, List.cons.injEq, and_true] at hb ho
  obtain ⟨b1, b2, b3, b4⟩ := hb
  refine ⟨hp, b1.symm, b2.symm, b3.symm, b4.symm, ho, ?_, s1.ediv, s2.ediv, s3.ediv, s4.ediv⟩
  have e : bnd (a, b, c, d) = g * g * bnd (a / g, b / g, c / g, d / g) := by
    unfold bnd
    simp only
    generalize a / g = x at *
    generalize b / g = y at *
    generalize c / g = z at *
    generalize d / g = w at *
    subst b1 b2 b3 b4
    grind
  rw [e] at h0
  rcases Int.lt_or_le 0 (bnd (a / g, b / g, c / g, d / g)) with q | q
  · exact q
  · have := Int.mul_nonpos_of_nonneg_of_nonpos (Int.le_of_lt (Int.mul_pos hp hp)) q
    omega
theorem Rw.fnz_ne {n : Nat} {r : R4} (h : Rw n r) : fnz [r.1, r.2.1, r.2.2.1, r.2.2.2] ≠ 0 := fun e => by
  have z := fnz_zero _ e
  have h0 := h.bend
  unfold bnd at h0
  rw [z r.1 (by simp), z r.2.1 (by simp), z r.2.2.1 (by simp)] at h0
  simp at h0
theorem Rw.neg {n : Nat} {r : R4} (h : Rw n r) : Rw n (0 - r.1, 0 - r.2.1, 0 - r.2.2.1, 0 - r.2.2.2) := by
  refine ⟨?_, ?_, ?_, ?_, ?_, ?_⟩
  · have := gcdL_neg [r.1, r.2.1, r.2.2.1, r.2.2.2] 0
    rw [h.one] at this
    exact this
  · have := h.bend
    unfold bnd at this ⊢
    simp only
    grind
  · simp only [Int.zero_sub]; exact h.s1.neg
  · simp only [Int.zero_sub]; exact h.s2.neg
  · simp only [Int.zero_sub]; exact h.s3.neg
  · simp only [Int.zero_sub]; exact h.s4.neg
theorem w__law_form {T : Tk} {n : Nat} {a b c d : Int} {k : KD} (h0 : 0 < bnd (a, b, c, d)) (s1 : Sz n a) (s2 : Sz n b) (s3 : Sz n c) (s4 : Sz n d) (hn : n ≤ 9000)
    (h : ∀ (r : R4) (g : Int), g ≠ 0 → a = g * r.1 → b = g * r.2.1 → c = g * r.2.2.1 → d = g * r.2.2.2 → Rd n r → k (.tup [.int r.1, .int r.2.1, .int r.2.2.1, .int r.2.2.2]) T) : sm__law_form [.val (.tup [.int a, .int b, .int c, .int d])] T k := by
  rw [e__law_form, b__law_form]
  walk_at "ev"
  obtain ⟨g0, e1, e2, e3, e4, hw⟩ := low_row h0 s1 s2 s3 s4
  have hx : ∃ x ∈ [a, b, c, d], x ≠ 0 ∧ Sz 9000 x := by
    by_cases hb : b = 0
    · by_cases hc : c = 0
      · by_cases ha : a = 0
        · exfalso; subst ha hb hc; unfold bnd at h0; simp at h0
        · exact ⟨a, by simp, ha, s1.mono hn⟩
      · exact ⟨c, by simp, hc, s3.mono hn⟩
    · exact ⟨b, by simp, hb, s2.mono hn⟩
  obtain ⟨x, x1, x2, x3⟩ := hx
  refine w__law_least (ns := [a, b, c, d]) (by simp) x1 x2 x3 ?_
  walk_at "ev"
  have hl : (lowL [a, b, c, d]).length ≤ 1000000 := by simp [lowL]
  refine ⟨by simpa using hl, ?_⟩
  refine lc_filt _ _ _ _ ?_
  have hf : fnz (lowL [a, b, c, d]) ≠ 0 := hw.fnz_ne
  rw [List.nil_append]
  walk_at "ev"
  rw [filt_head _ hf]
  walk_at "ev"
  by_cases q : 0 < fnz (lowL [a, b, c, d])
  · rw [if_pos q]
    exact h (a / gcdL 0 [a, b, c, d], b / gcdL 0 [a, b, c, d], c / gcdL 0 [a, b, c, d], d / gcdL 0 [a, b, c, d]) _ (by omega) e1 e2 e3 e4 ⟨hw, q⟩
  · rw [if_neg q]
    refine ⟨by simpa using hl, ?_⟩
    refine lc_neg _ _ _ _ ?_
    have up : 0 < fnz ((lowL [a, b, c, d]).map fun x => 0 - x) := by rw [fnz_neg]; omega
    have m : ∀ x g : Int, g * x = -g * (0 - x) := fun x g => by rw [Int.zero_sub, Int.neg_mul_neg]
    exact h (0 - a / gcdL 0 [a, b, c, d], 0 - b / gcdL 0 [a, b, c, d], 0 - c / gcdL 0 [a, b, c, d], 0 - d / gcdL 0 [a, b, c, d]) (-gcdL 0 [a, b, c, d]) (by omega) (e1.trans (m _ _)) (e2.trans (m _ _)) (e3.trans (m _ _)) (e4.trans (m _ _)) ⟨hw.neg, up⟩

theorem rne' {a : Int} (h : 0 < a) : (a : Rat) ≠ 0 := fun e => by have := cast_inj (b := 0) e; omega
theorem w__law_small {T : Tk} {k : KD} (hT : TkOk T) (h : ∀ r T', Sz 40 r → TkOk T' → k (.int r) T') : sm__law_small [.tank] T k := by
  rw [e__law_small, b__law_small]
  walk_at "ev"
  refine w__law_pick hT (by simp) (by simp) fun x T1 hx hT1 => ?_
  have hx' : ∃ s : Int, x = .int s ∧ 0 ≤ s ∧ s ≤ 99 := by
    simp only [List.mem_cons, List.not_mem_nil, or_false] at hx
    rcases hx with rfl | rfl | rfl | rfl | rfl <;> exact ⟨_, rfl, by decide, by decide⟩
  obtain ⟨s, rfl, s0, s1⟩ := hx'
  walk_at "ev"
  refine ⟨lit_mul (by decide), ?_⟩
  refine w__law_draw hT1 (by omega) (by omega) fun r T2 h2 h3 hT2 => ?_
  walk_at "ev"
  refine h _ _ ?_ hT2
  unfold Sz
  omega
theorem w__law_near {T : Tk} {k : KD} (hT : TkOk T) (h : ∀ (q : P3) (u v : Rat) T', PlQ 40 q u v → TkOk T' → k (.tup [.int q.1, .int q.2.1, .int q.2.2]) T') : sm__law_near [.tank] T k := by
  rw [e__law_near, b__law_near]
  walk_at "ev"
  refine w__law_small hT fun a T1 sa hT1 => ?_
  walk_at "ev"
  refine w__law_small hT1 fun b T2 sb hT2 => ?_
  walk_at "ev"
  refine w__law_pick hT2 (by simp) (by simp) fun x T3 hx hT3 => ?_
  have hx' : ∃ s : Int, x = .int s ∧ 1 ≤ s ∧ s ≤ 99 := by
    simp only [List.mem_cons, List.not_mem_nil, or_false] at hx
    rcases hx with rfl | rfl | rfl | rfl <;> exact ⟨_, rfl, by decide, by decide⟩
  obtain ⟨s, rfl, s0, s1⟩ := hx'
  walk_at "ev"
  refine w__law_draw hT3 (by omega) (by omega) fun r T4 h2 h3 hT4 => ?_
  walk_at "ev"
  have dz : ((1 + r : Int) : Rat) ≠ 0 := rne' (by omega)
  exact w_least3 (u := a / (1 + r : Int)) (v := b / (1 + r : Int)) (by omega) sa sb (show Sz 40 (1 + r) by unfold Sz; omega) (by decide) (by grind) (by grind) fun q hq => h q _ _ _ hq hT4
theorem row_fix {q l m k : Int} (h : l * l + m * m ≤ 4 * q * k) : 0 < bnd (q, l, m, 0 - k) ∨ (l * l + m * m ≤ 4 * q * (0 - k) ∧ 0 < bnd (q, 1, m, 0 - k)) := by
  have e : 4 * q * (0 - k) = -(4 * q * k) := by grind
  have h1 := mul_self_nonneg' l
  have h2 := mul_self_nonneg' m
  unfold bnd
  simp only
  rw [e]
  generalize 4 * q * k = x at *
  generalize l * l = y at *
  generalize m * m = z at *
  omega
theorem w_least_row {T : Tk} {n : Nat} {a b c d : Int} {k : KD} (h0 : 0 < bnd (a, b, c, d)) (s1 : Sz n a) (s2 : Sz n b) (s3 : Sz n c) (s4 : Sz n d) (hn : n ≤ 9000) (h : ∀ r : R4, Rw n r → k (.tup [.int r.1, .int r.2.1, .int r.2.2.1, .int r.2.2.2]) T) : sm__law_least [.val (.tup [.int a, .int b, .int c, .int d])] T k := by
  obtain ⟨g0, e1, e2, e3, e4, hw⟩ := low_row h0 s1 s2 s3 s4
  have hx : ∃ x ∈ [a, b, c, d], x ≠ 0 ∧ Sz 9000 x := by
    by_cases hb : b = 0
    · by_cases hc : c = 0
      · by_cases ha : a = 0
        · exfalso; subst ha hb hc; unfold bnd at h0; simp at h0
        · exact ⟨a, by simp, ha, s1.mono hn⟩
      · exact ⟨c, by simp, hc, s3.mono hn⟩
    · exact ⟨b, by simp, hb, s2.mono hn⟩
  obtain ⟨x, x1, x2, x3⟩ := hx
  exact w__law_least (ns := [a, b, c, d]) (by simp) x1 x2 x3 (h (_, _, _, _) hw)
theorem w__law_row {T : Tk} {k : KD} (hT : TkOk T) (h : ∀ (r : R4) T', Rw 40 r → TkOk T' → k (.tup [.int r.1, .int r.2.1, .int r.2.2.1, .int r.2.2.2]) T') : sm__law_row [.tank] T k := by
  rw [e__law_row, b__law_row]
  walk_at "ev"
  refine w__law_small hT fun q T1 sq hT1 => ?_
  walk_at "ev"
  refine w__law_small hT1 fun l T2 sl hT2 => ?_
  walk_at "ev"
  refine w__law_small hT2 fun m T3 sm hT3 => ?_
  walk_at "ev"
  refine w__law_small hT3 fun c T4 sc hT4 => ?_
  walk_at "ev"
  refine w__law_draw hT4 (by decide) (by decide) fun way T5 _ _ hT5 => ?_
  have fin : ∀ (q l m c : Int) (T : Tk), Sz 40 q → Sz 40 l → Sz 40 m → Sz 40 c → TkOk T → MulOk l l ∧ MulOk m m ∧ MulOk 4 q ∧ MulOk (4 * q) c ∧
      if l * l + m * m ≤ 4 * q * c then MulOk l l ∧ MulOk m m ∧ MulOk 4 q ∧ MulOk (4 * q) (0 - c) ∧
        (if l * l + m * m ≤ 4 * q * (0 - c) then sm__law_least [.val (.tup [.int q, .int 1, .int m, .int (0 - c)])] T k else sm__law_least [.val (.tup [.int q, .int l, .int m, .int (0 - c)])] T k)
      else MulOk l l ∧ MulOk m m ∧ MulOk 4 q ∧ MulOk (4 * q) c ∧
        (if l * l + m * m ≤ 4 * q * c then sm__law_least [.val (.tup [.int q, .int 1, .int m, .int c])] T k else sm__law_least [.val (.tup [.int q, .int l, .int m, .int c])] T k) := by
    intro q l m c T sq sl sm sc hT
    have o1 := sl.mulOk sl (by decide) (by decide)
    have o2 := sm.mulOk sm (by decide) (by decide)
    have o3 : MulOk 4 q := lit_mul (by decide)
    have o4 := (sz_4.mul sq).mulOk sc (by decide) (by decide)
    have sn : Sz 40 (0 - c) := by rw [Int.zero_sub]; exact sc.neg
    have o5 := (sz_4.mul sq).mulOk sn (by decide) (by decide)
    have s1 : Sz 40 1 := Nat.pow_lt_pow_right (m := 0) (n := 40) (by decide) (by decide)
    refine ⟨o1, o2, o3, o4, ?_⟩
    by_cases c1 : l * l + m * m ≤ 4 * q * c
    · rw [if_pos c1]
      refine ⟨o1, o2, o3, o5, ?_⟩
      by_cases c2 : l * l + m * m ≤ 4 * q * (0 - c)
      · rw [if_pos c2]
        have b0 : 0 < bnd (q, 1, m, 0 - c) := by
          rcases row_fix c1 with f | f
          · exfalso; unfold bnd at f; simp only at f; omega
          · exact f.2
        exact w_least_row b0 sq s1 sm sn (by decide) fun r hr => h r _ hr hT
      · rw [if_neg c2]
        exact w_least_row (by unfold bnd; simp only; omega) sq sl sm sn (by decide) fun r hr => h r _ hr hT
    · rw [if_neg c1]
      refine ⟨o1, o2, o3, o4, ?_⟩
      rw [if_neg c1]
      exact w_least_row (by unfold bnd; simp only; omega) sq sl sm sc (by decide) fun r hr => h r _ hr hT
  walk_at "ev"
  refine (Decidable.em (way = 0)).elim (fun c0 => ?_) (fun c0 => ?_)
  · rw [if_pos c0]
    refine w__law_number hT5 fun c' T6 sc' hT6 => ?_
    rw [if_neg (by omega)]
    walk_at "ev"
    exact fin 0 l m c' T6 sz_0 sl sm sc' hT6
  · rw [if_neg c0]
    refine (Decidable.em (way = 1)).elim (fun c1 => ?_) (fun c1 => ?_)
    · rw [if_pos c1]
      refine w__law_number hT5 fun l' T6 sl' hT6 => ?_
      refine w__law_number hT6 fun m' T7 sm' hT7 => ?_
      refine w__law_number hT7 fun c' T8 sc' hT8 => ?_
      walk_at "ev"
      exact fin q l' m' c' T8 sq sl' sm' sc' hT8
    · rw [if_neg c1]
      exact fin q l m c T5 sq sl sm sc hT5

abbrev pD (q : P3) : D := .tup [.int q.1, .int q.2.1, .int q.2.2]
/-- a place, the far one too -/
structure Pt (n : Nat) (q : P3) : Prop where
  ok : (q.1 = 1 ∧ q.2.1 = 0 ∧ q.2.2 = 0) ∨ 0 < q.2.2
  one : gcdL 0 [q.1, q.2.1, q.2.2] = 1
  s1 : Sz n q.1
  s2 : Sz n q.2.1
  s3 : Sz n q.2.2
theorem Pt.mono {m n : Nat} {q : P3} (h : Pt m q) (l : m ≤ n) : Pt n q := ⟨h.ok, h.one, h.s1.mono l, h.s2.mono l, h.s3.mono l⟩
theorem PlQ.pt {n : Nat} {q : P3} {u v : Rat} (h : PlQ n q u v) : Pt n q := ⟨.inr h.pos, h.one, h.s1, h.s2, h.s3⟩
theorem sz_1 {n : Nat} (h : 1 ≤ n) : Sz n 1 := Nat.pow_lt_pow_right (m := 0) (n := n) (by decide) (by omega)
theorem pt_far {n : Nat} (h : 1 ≤ n) : Pt n (1, 0, 0) := ⟨.inl ⟨rfl, rfl, rfl⟩, by decide, sz_1 h, sz_0, sz_0⟩
theorem Pt.far {n : Nat} {q : P3} (h : Pt n q) (e : q.2.2 = 0) : q = (1, 0, 0) := by
  obtain ⟨a, b, c⟩ := q
  rcases h.ok with ⟨e1, e2, e3⟩ | e1
  · simp only at e1 e2 e3; subst e1 e2 e3; rfl
  · simp only at e e1; omega
theorem Pt.nn {n : Nat} {q : P3} (h : Pt n q) : 0 ≤ q.2.2 := by rcases h.ok with ⟨_, _, e3⟩ | e1 <;> omega
theorem lite_pt {n : Nat} {p : P3} (h : Pt n p) (l : n ≤ 1900) : (pD p).lite := lite_tup (liteL_cons (h.s1.lite l) (liteL_cons (h.s2.lite l) (liteL_cons (h.s3.lite l) liteL_nil)))
/-- the square of how far apart, times what is below -/
def dd (p q : P3) : Int := (p.1 * q.2.2 - q.1 * p.2.2) * (p.1 * q.2.2 - q.1 * p.2.2) + (p.2.1 * q.2.2 - q.2.1 * p.2.2) * (p.2.1 * q.2.2 - q.2.1 * p.2.2)
theorem two_sq {a b : Int} (h : a * a + b * b = 0) : a = 0 ∧ b = 0 := by
  have h1 := mul_self_nonneg' a
  have h2 := mul_self_nonneg' b
  constructor
  · by_cases c : a = 0
    · exact c
    · have := imul_self_pos c; omega
  · by_cases c : b = 0
    · exact c
    · have := imul_self_pos c; omega
theorem dd_zero {m n : Nat} {p q : P3} (hp : Pt m p) (hq : Pt n q) (h : dd p q = 0) : p = q := by
  obtain ⟨e1, e2⟩ := two_sq h
  by_cases z : p.2.2 = 0
  · have f := hp.far z
    subst f
    simp only [Int.one_mul, Int.mul_zero, Int.sub_zero] at e1
    exact (hq.far e1).symm
  by_cases z' : q.2.2 = 0
  · have f := hq.far z'
    subst f
    simp only [Int.one_mul, Int.mul_zero, Int.zero_sub] at e1
    exact absurd (by omega) z
  have p1 : 0 < p.2.2 := by have := hp.nn; omega
  have p2 : 0 < q.2.2 := by have := hq.nn; omega
  have o1 := hp.one
  have o2 := hq.one
  obtain ⟨a, b, c⟩ := p
  obtain ⟨a', b', c'⟩ := q
  simp only at *
  have := gcd_uniq p2 p1 o1 o2 (show [a, b, c].map (c' * ·) = [a', b', c'].map (c * ·) by
    simp only [List.map_cons, List.map_nil, List.cons.injEq, and_true]
    refine ⟨?_, ?_, Int.mul_comm _ _⟩
    · rw [Int.mul_comm c' a, Int.mul_comm c a']; omega
    · rw [Int.mul_comm c' b, Int.mul_comm c b']; omega)
  simpa using this
theorem TkOk.noL {T : Tk} (h : TkOk T) : D.noLL T := by
  obtain ⟨a, b, c, rfl, _⟩ := h
  simp only [D.noLL, D.noL, and_self]
theorem eqD_pD (p q : P3) : eqD (pD p) (pD q) = decide (p = q) := by
  obtain ⟨a, b, c⟩ := p
  obtain ⟨a', b', c'⟩ := q
  simp only [pD, eqD_tup, eqDL_cons, eqDL_nil, eqD_int, Bool.and_true, Prod.mk.injEq, Bool.decide_and]
theorem any_pD (q : P3) : ∀ ps : List P3, (ps.map pD).any (fun z => eqD z (pD q)) = decide (q ∈ ps)
  | [] => by simp
  | p :: ps => by
    rw [List.map_cons, List.any_cons, any_pD q ps, eqD_pD]
    by_cases h : p = q
    · subst h; simp
    · have h' : ¬ q = p := fun e => h e.symm
      simp [h, h']
theorem ok_pDs_aux : ∀ ps : List P3, D.isPyL (ps.map pD) = true ∧ PyData.canLayAll0 (D.pyL (ps.map pD)) = true ∧ PyData.depthAll (D.pyL (ps.map pD)) ≤ 1
  | [] => ⟨rfl, rfl, by simp [D.pyL, PyData.depthAll]⟩
  | p :: ps => by
    have ⟨h1, h2, h3⟩ := ok_pDs_aux ps
    refine ⟨?_, ?_, ?_⟩
    · simp only [List.map_cons, D.isPyL, pD, D.isPy, h1, Bool.and_self]
    · simp only [List.map_cons, D.pyL, pD, D.py, PyData.canLayAll0, PyData.canLay0, h2, Bool.and_self]
    · simp only [List.map_cons, D.pyL, pD, D.py, PyData.depthAll, PyData.depth]; omega
theorem ok_pDs (ps : List P3) : (D.lst (ps.map pD)).eqOk := by
  have ⟨h1, h2, h3⟩ := ok_pDs_aux ps
  refine ⟨by simpa only [D.isPy] using h1, ?_⟩
  unfold SeqAt.shaped
  simp only [D.py, PyData.canLay0, h2, Bool.true_and, PyData.depth]
  simp; omega
theorem w_is_place_pt {T : Tk} {n : Nat} {q : P3} {k : KD} (hq : Pt n q) (h : k (.bl true) T) : sm_is_place [.val (.tup [.int q.1, .int q.2.1, .int q.2.2])] T k := by
  rcases hq.ok with e | e
  · rw [e_is_place, b_is_place, k_FAR]
    walk_at "ev"
    refine w_are_wholes_3 ?_
    walk_at "ev"
    refine ⟨⟨ok_p3, ok_p3⟩, ?_⟩
    rw [if_pos e]
    exact h
  · exact w_is_place e hq.one h
/-- rounds that are multiples of one another are the same -/
theorem rd_uniq {m n : Nat} {r r' : R4} (h : Rd m r) (h' : Rd n r') {g g' : Int} (g0 : g ≠ 0) (g0' : g' ≠ 0) (e1 : g * r.1 = g' * r'.1) (e2 : g * r.2.1 = g' * r'.2.1) (e3 : g * r.2.2.1 = g' * r'.2.2.1) (e4 : g * r.2.2.2 = g' * r'.2.2.2) : r = r' := by
  have fz : ∀ (c : Int) (ns : List Int), c ≠ 0 → fnz (ns.map (c * ·)) = c * fnz ns := fun c ns hc => by
    induction ns with
    | nil => simp [fnz]
    | cons x xs ih =>
      rw [List.map_cons]
      unfold fnz
      by_cases q : x = 0
      · rw [if_pos q, if_pos (by rw [q, Int.mul_zero])]; exact ih
      · rw [if_neg q, if_neg (Int.mul_ne_zero hc q)]
  have e : [r.1, r.2.1, r.2.2.1, r.2.2.2].map (g * ·) = [r'.1, r'.2.1, r'.2.2.1, r'.2.2.2].map (g' * ·) := by simp only [List.map_cons, List.map_nil, e1, e2, e3, e4]
  have f := fz g [r.1, r.2.1, r.2.2.1, r.2.2.2] g0
  rw [e, fz g' _ g0'] at f
  have u := h.up
  have u' := h'.up
  have key : ∀ {a b : Int}, 0 < a → 0 < b → a * r.1 = b * r'.1 → a * r.2.1 = b * r'.2.1 → a * r.2.2.1 = b * r'.2.2.1 → a * r.2.2.2 = b * r'.2.2.2 → r = r' := fun {a b} ha hb q1 q2 q3 q4 => by
    have := gcd_uniq ha hb h.one h'.one (show [r.1, r.2.1, r.2.2.1, r.2.2.2].map (a * ·) = [r'.1, r'.2.1, r'.2.2.1, r'.2.2.2].map (b * ·) by simp only [List.map_cons, List.map_nil, q1, q2, q3, q4])
    obtain ⟨_, _, _, _⟩ := r
    obtain ⟨_, _, _, _⟩ := r'
    simpa using this
  rcases Int.lt_or_gt_of_ne g0 with c | c
  · have c' : g' < 0 := by
      rcases Int.lt_or_gt_of_ne g0' with d | d
      · exact d
      · have := Int.mul_pos d u'; have := Int.mul_neg_of_neg_of_pos c u; omega
    exact key (a := -g) (b := -g') (by omega) (by omega) (by rw [Int.neg_mul, Int.neg_mul, e1]) (by rw [Int.neg_mul, Int.neg_mul, e2]) (by rw [Int.neg_mul, Int.neg_mul, e3]) (by rw [Int.neg_mul, Int.neg_mul, e4])
  · have c' : 0 < g' := by
      rcases Int.lt_or_gt_of_ne g0' with d | d
      · have := Int.mul_neg_of_neg_of_pos d u'; have := Int.mul_pos c u; omega
      · exact d
    exact key c c' e1 e2 e3 e4
theorem row_nz {a b c d : Int} (h0 : 0 < bnd (a, b, c, d)) : ∃ x ∈ [a, b, c, d], x ≠ 0 := by
  by_cases hb : b = 0
  · by_cases hc : c = 0
    · by_cases ha : a = 0
      · exfalso; subst ha hb hc; unfold bnd at h0; simp at h0
      · exact ⟨a, by simp, ha⟩
    · exact ⟨c, by simp, hc⟩
  · exact ⟨b, by simp, hb⟩
theorem w_first_above {T : Tk} {n : Nat} {a b c d : Int} {k : KD} (h0 : 0 < bnd (a, b, c, d)) (s1 : Sz n a) (s2 : Sz n b) (s3 : Sz n c) (s4 : Sz n d) (hn : n ≤ 9000)
    (h : ∀ (r : R4) (g : Int), g ≠ 0 → a = g * r.1 → b = g * r.2.1 → c = g * r.2.2.1 → d = g * r.2.2.2 → Rd n r → k (.tup [.int r.1, .int r.2.1, .int r.2.2.1, .int r.2.2.2]) T) : sm_first_above [.val (.tup [.int a, .int b, .int c, .int d])] T k := by
  rw [e_first_above, b_first_above]
  walk_at "ev"
  obtain ⟨g0, e1, e2, e3, e4, hw⟩ := low_row h0 s1 s2 s3 s4
  have hx : ∃ x ∈ [a, b, c, d], x ≠ 0 ∧ Sz 9000 x := by
    obtain ⟨x, hx, x0⟩ := row_nz h0
    refine ⟨x, hx, x0, ?_⟩
    simp only [List.mem_cons, List.not_mem_nil, or_false] at hx
    rcases hx with rfl | rfl | rfl | rfl
    · exact s1.mono hn
    · exact s2.mono hn
    · exact s3.mono hn
    · exact s4.mono hn
  obtain ⟨x, x1, x2, x3⟩ := hx
  refine w_lowest (ns := [a, b, c, d]) (by simp) x1 x2 x3 ?_
  have hf : fnz (lowL [a, b, c, d]) ≠ 0 := hw.fnz_ne
  have hl : (lowL [a, b, c, d]).length ≤ 1000000 := by simp [lowL]
  have hq : (lowL [a, b, c, d]).map D.int = [.int (a / gcdL 0 [a, b, c, d]), .int (b / gcdL 0 [a, b, c, d]), .int (c / gcdL 0 [a, b, c, d]), .int (d / gcdL 0 [a, b, c, d])] := rfl
  rw [hq]
  walk_at "ev"
  refine w_is_led_up4 ?_
  walk_at "ev"
  by_cases q : 0 < fnz (lowL [a, b, c, d])
  · rw [if_pos (show 0 < fnz [a / gcdL 0 [a, b, c, d], b / gcdL 0 [a, b, c, d], c / gcdL 0 [a, b, c, d], d / gcdL 0 [a, b, c, d]] from q)]
    exact h (a / gcdL 0 [a, b, c, d], b / gcdL 0 [a, b, c, d], c / gcdL 0 [a, b, c, d], d / gcdL 0 [a, b, c, d]) _ (by omega) e1 e2 e3 e4 ⟨hw, q⟩
  · rw [if_neg (show ¬ 0 < fnz [a / gcdL 0 [a, b, c, d], b / gcdL 0 [a, b, c, d], c / gcdL 0 [a, b, c, d], d / gcdL 0 [a, b, c, d]] from q)]
    have up : 0 < fnz ((lowL [a, b, c, d]).map fun x => 0 - x) := by rw [fnz_neg]; omega
    have m : ∀ x g : Int, g * x = -g * (0 - x) := fun x g => by rw [Int.zero_sub, Int.neg_mul_neg]
    have fin := h (0 - a / gcdL 0 [a, b, c, d], 0 - b / gcdL 0 [a, b, c, d], 0 - c / gcdL 0 [a, b, c, d], 0 - d / gcdL 0 [a, b, c, d]) (-gcdL 0 [a, b, c, d]) (by omega) (e1.trans (m _ _)) (e2.trans (m _ _)) (e3.trans (m _ _)) (e4.trans (m _ _)) ⟨hw.neg, up⟩
    simp only [Int.zero_sub] at fin
    exact fin
def w4 (p : P3) : R4 := (p.1 * p.1 + p.2.1 * p.2.1, p.1 * p.2.2, p.2.1 * p.2.2, p.2.2 * p.2.2)
def mnr (a b c d : Int) : Int := a * d - b * c
def dt3 (a b c d e f g h i : Int) : Int := a * mnr e f h i - b * mnr d f g i + c * mnr d e g h
def cr4 (x y z : R4) : R4 := (dt3 x.2.1 x.2.2.1 x.2.2.2 y.2.1 y.2.2.1 y.2.2.2 z.2.1 z.2.2.1 z.2.2.2, -dt3 x.1 x.2.2.1 x.2.2.2 y.1 y.2.2.1 y.2.2.2 z.1 z.2.2.1 z.2.2.2,
  dt3 x.1 x.2.1 x.2.2.2 y.1 y.2.1 y.2.2.2 z.1 z.2.1 z.2.2.2, -dt3 x.1 x.2.1 x.2.2.1 y.1 y.2.1 y.2.2.1 z.1 z.2.1 z.2.2.1)
structure S4 (n : Nat) (r : R4) : Prop where
  s1 : Sz n r.1
  s2 : Sz n r.2.1
  s3 : Sz n r.2.2.1
  s4 : Sz n r.2.2.2
theorem lite_rw {n : Nat} {r : R4} (h : Rw n r) (l : n ≤ 1900) : (D.tup [.int r.1, .int r.2.1, .int r.2.2.1, .int r.2.2.2]).lite := lite_tup (liteL_cons (h.s1.lite l) (liteL_cons (h.s2.lite l) (liteL_cons (h.s3.lite l) (liteL_cons (h.s4.lite l) liteL_nil))))
/-- the round through three places -/
structure Thr (r : R4) (p q s : P3) : Prop where
  ex : ∃ g : Int, g ≠ 0 ∧ (cr4 (w4 p) (w4 q) (w4 s)).1 = g * r.1 ∧ (cr4 (w4 p) (w4 q) (w4 s)).2.1 = g * r.2.1 ∧ (cr4 (w4 p) (w4 q) (w4 s)).2.2.1 = g * r.2.2.1 ∧ (cr4 (w4 p) (w4 q) (w4 s)).2.2.2 = g * r.2.2.2
theorem Thr.uniq {m n : Nat} {r r' : R4} {p q s : P3} (h : Thr r p q s) (h' : Thr r' p q s) (hr : Rd m r) (hr' : Rd n r') : r = r' := by
  obtain ⟨g, g0, e1, e2, e3, e4⟩ := h.ex
  obtain ⟨g', g0', f1, f2, f3, f4⟩ := h'.ex
  exact rd_uniq hr hr' g0 g0' (e1.symm.trans f1) (e2.symm.trans f2) (e3.symm.trans f3) (e4.symm.trans f4)
theorem Thr.line {r : R4} {p q s : P3} (h : Thr r p q s) : r.1 = 0 ↔ p.2.2 * q.2.2 * s.2.2 * (p.1 * (q.2.1 * s.2.2 - s.2.1 * q.2.2) - p.2.1 * (q.1 * s.2.2 - s.1 * q.2.2) + p.2.2 * (q.1 * s.2.1 - s.1 * q.2.1)) = 0 := by
  obtain ⟨g, g0, e1, _, _, _⟩ := h.ex
  have e : (cr4 (w4 p) (w4 q) (w4 s)).1 = p.2.2 * q.2.2 * s.2.2 * (p.1 * (q.2.1 * s.2.2 - s.2.1 * q.2.2) - p.2.1 * (q.1 * s.2.2 - s.1 * q.2.2) + p.2.2 * (q.1 * s.2.1 - s.1 * q.2.1)) := by
    simp only [cr4, dt3, mnr, w4]; grind
  rw [← e, e1]
  constructor
  · intro z; rw [z, Int.mul_zero]
  · intro z; exact (Int.mul_eq_zero.mp z).resolve_left g0
theorem w__law_any_place {T : Tk} {k : KD} (hT : TkOk T) (h : ∀ (q : P3) T', Pt 40 q → TkOk T' → k (.tup [.int q.1, .int q.2.1, .int q.2.2]) T') : sm__law_any_place [.tank] T k := by
  rw [e__law_any_place, b__law_any_place]
  walk_at "ev"
  refine w__law_draw hT (by decide) (by decide) fun r T1 _ _ hT1 => ?_
  walk_at "ev"
  refine (Decidable.em (r = 0)).elim (fun c => ?_) (fun c => ?_)
  · rw [if_pos c]
    exact h (1, 0, 0) _ (pt_far (by decide)) hT1
  · rw [if_neg c]
    exact w__law_near hT1 fun q u v T2 hq hT2 => h q _ hq.pt hT2
def altP (t s : Nat) : P3 := ((2 * (t : Int) + s + 7) / gcdL 0 [2 * (t : Int) + s + 7, (s : Int) - t, 1 + (t : Int)], ((s : Int) - t) / gcdL 0 [2 * (t : Int) + s + 7, (s : Int) - t, 1 + (t : Int)], (1 + (t : Int)) / gcdL 0 [2 * (t : Int) + s + 7, (s : Int) - t, 1 + (t : Int)])
theorem altP_inj {t s s' : Nat} (h : altP t s = altP t s') : s = s' := by
  have b := lowL_back (ns := [2 * (t : Int) + s + 7, (s : Int) - t, 1 + (t : Int)])
  have b' := lowL_back (ns := [2 * (t : Int) + s' + 7, (s' : Int) - t, 1 + (t : Int)])
  unfold altP at h
  unfold lowL at b b'
  generalize gcdL 0 [2 * (t : Int) + s + 7, (s : Int) - t, 1 + (t : Int)] = g at *
  generalize gcdL 0 [2 * (t : Int) + s' + 7, (s' : Int) - t, 1 + (t : Int)] = g' at *
  simp only [List.map_cons, List.map_nil, List.cons.injEq, and_true, Prod.mk.injEq] at b b' h
  obtain ⟨_, b2, b3⟩ := b
  obtain ⟨_, b2', b3'⟩ := b'
  obtain ⟨_, h2, h3⟩ := h
  rw [← h3] at b3'
  rw [← h2] at b2'
  have z : (1 + (t : Int)) / g ≠ 0 := fun e => by rw [e, Int.mul_zero] at b3; omega
  have eg : g = g' := Int.eq_of_mul_eq_mul_right z (b3.trans b3'.symm)
  subst eg
  omega
theorem pigeon {α : Type} [DecidableEq α] : ∀ (as bs : List α), as.Nodup → (∀ a ∈ as, a ∈ bs) → as.length ≤ bs.length
  | [], _, _, _ => Nat.zero_le _
  | a :: as, bs, nd, h => by
    rw [List.nodup_cons] at nd
    have hm := h a (by simp)
    have := pigeon as (bs.erase a) nd.2 fun x hx => by
      have ne : x ≠ a := fun e => nd.1 (e ▸ hx)
      exact (List.mem_erase_of_ne ne).mpr (h x (by simp [hx]))
    rw [List.length_erase_of_mem hm] at this
    have : 0 < bs.length := List.length_pos_of_mem hm
    simp only [List.length_cons]
    omega
theorem alt_out {t m : Nat} {ps : List P3} (hl : ps.length < m) (h : ∀ s, s < m → altP t s ∈ ps) : False := by
  have nd : ((List.range m).map (altP t)).Nodup := by
    unfold List.Nodup
    rw [List.pairwise_map]
    exact (List.nodup_range (n := m)).imp fun ne e => ne (altP_inj e)
  have := pigeon _ ps nd fun a ha => by
    obtain ⟨s, hs, rfl⟩ := List.mem_map.mp ha
    exact h s (List.mem_range.mp hs)
  simp only [List.length_map, List.length_range] at this
  omega
theorem unlike_in {N : dEnds} {T : Tk} {A B : Option SV} {m t : Nat} {ps : List P3} (hT : TkOk T) (hl : ps.length < m) (ht : t ≤ 1000) (hm : m ≤ 1000)
    (h : ∀ q s', Pt 40 q → q ∉ ps → N.nx [A, B, some (.own (ps.map pD)), some (.val (.int t)), some (.val (pD q)), s'] T) :
    ∀ (j s : Nat) (q : P3) (s' : Option SV), j + s = m → Pt 40 q → (q ∈ ps → ∀ i, i < s → altP t i ∈ ps) →
    forL (gN 5) (sIf (dViewT 2 (dTst (dOp (oF fInS) (dVar 4) (dVar 2)))) (sAsg (dCall 1 sm__law_least (aCons (dTup (aCons (dOp (oF fAdd) (dOp (oF fAdd) (dOp (oF fMul) (dC (.int 2)) (dVar 3)) (dVar 5)) (dC (.int 7))) (aCons (dOp (oF fSub) (dVar 5) (dVar 3)) (aCons (dOp (oF fAdd) (dC (.int 1)) (dVar 3)) (aNil))))) (aNil))) (gN 4)) ((fun k ρ T => k.nx ρ T)))
      N (intsL s j) [A, B, some (.own (ps.map pD)), some (.val (.int t)), some (.val (pD q)), s'] T
  | 0, s, q, s', e, hq, inv => by
    refine h q s' hq fun hm' => ?_
    exact alt_out hl fun i hi => inv hm' i (by omega)
  | j + 1, s, q, s', e, hq, inv => by
    rw [intsL]
    walk_at "ev"
    refine ⟨⟨ok_p3, ok_pDs ps⟩, hT.noL, ?_⟩
    rw [any_pD q ps]
    have e1 : (s : Int) + 1 = ((s + 1 : Nat) : Int) := by omega
    refine (Decidable.em (q ∈ ps)).elim (fun c => ?_) (fun c => ?_)
    · rw [if_pos (by simpa using c)]
      refine ⟨lit_mul (by decide), ?_⟩
      refine w__law_least (ns := [2 * (t : Int) + s + 7, (s : Int) - t, 1 + (t : Int)]) (by simp) (n := 1 + (t : Int)) (by simp) (by omega) (show Sz 9000 (1 + (t : Int)) from (show Sz 64 (1 + (t : Int)) by unfold Sz; omega).mono (by decide)) ?_
      have hp : Pt 40 (altP t s) := by
        refine ⟨.inr ?_, ?_, ?_, ?_, ?_⟩
        · have hp : 0 < gcdL 0 [2 * (t : Int) + s + 7, (s : Int) - t, 1 + (t : Int)] := gcdL_pos (n := 1 + (t : Int)) (by simp) (by omega)
          have hd := gcdL_dvd [2 * (t : Int) + s + 7, (s : Int) - t, 1 + (t : Int)] 0 (1 + (t : Int)) (by simp)
          exact Int.ediv_pos_of_pos_of_dvd (by omega) (by omega) hd
        · exact lowL_gcd (ns := [2 * (t : Int) + s + 7, (s : Int) - t, 1 + (t : Int)]) (gcdL_pos (n := 1 + (t : Int)) (by simp) (by omega))
        · exact Sz.ediv (show Sz 40 _ by unfold Sz; omega)
        · exact Sz.ediv (show Sz 40 _ by unfold Sz; omega)
        · exact Sz.ediv (show Sz 40 _ by unfold Sz; omega)
      have := unlike_in (N := N) (A := A) (B := B) hT hl ht hm h j (s + 1) (altP t s) (some (.val (.int s))) (by omega) hp fun hin i hi => by
        by_cases f : i = s
        · subst f; exact hin
        · exact inv c i (by omega)
      rw [e1]
      exact this
    · rw [if_neg (by simpa using c)]
      rw [e1]
      exact unlike_in (N := N) (A := A) (B := B) hT hl ht hm h j (s + 1) q (some (.val (.int s))) (by omega) hq fun hin => absurd hin c
theorem unlike_out {N : dEnds} {A : Option SV} {m : Nat} (hA : A = some .tank) (hm : m ≤ 1000)
    (h : ∀ (ps : List P3) T' a b c, ps.length = m → ps.Nodup → (∀ p ∈ ps, Pt 40 p) → TkOk T' → N.nx [A, some (.val (.int m)), some (.own (ps.map pD)), a, b, c] T') :
    ∀ (j t : Nat) (ps : List P3) (T : Tk) (a b c : Option SV), j + t = m → ps.length = t → ps.Nodup → (∀ p ∈ ps, Pt 40 p) → TkOk T →
    forL (gN 3) (sSeq (sAsg (dCall 1 sm__law_any_place (aTank 0 (aNil))) (gN 4)) (sSeq (sForI (iR1 (aCons (dVar 1) (aNil))) (gN 5) (sIf (dViewT 2 (dTst (dOp (oF fInS) (dVar 4) (dVar 2)))) (sAsg (dCall 1 sm__law_least (aCons (dTup (aCons (dOp (oF fAdd) (dOp (oF fAdd) (dOp (oF fMul) (dC (.int 2)) (dVar 3)) (dVar 5)) (dC (.int 7))) (aCons (dOp (oF fSub) (dVar 5) (dVar 3)) (aCons (dOp (oF fAdd) (dC (.int 1)) (dVar 3)) (aNil))))) (aNil))) (gN 4)) ((fun k ρ T => k.nx ρ T)))) (sApp 2 (dVar 4))))
      N (intsL t j) [A, some (.val (.int m)), some (.own (ps.map pD)), a, b, c] T
  | 0, t, ps, T, a, b, c, e, hl, nd, hp, hT => h ps T a b c (by omega) nd hp hT
  | j + 1, t, ps, T, a, b, c, e, hl, nd, hp, hT => by
    subst hA
    rw [intsL]
    walk_at "ev"
    refine w__law_any_place hT fun q T1 hq hT1 => ?_
    walk_at "ev"
    refine ⟨by omega, by omega, ?_⟩
    rw [Int.toNat_natCast]
    refine unlike_in (m := m) (t := t) (ps := ps) hT1 (by omega) (by omega) hm (fun q s' hq hn => ?_) m 0 q _ (by omega) hq fun _ i hi => absurd hi (Nat.not_lt_zero _)
    walk_at "ev"
    refine ⟨by rw [List.length_map]; omega, ?_⟩
    have e1 : (t : Int) + 1 = ((t + 1 : Nat) : Int) := by omega
    rw [e1]
    have e2 : ps.map pD ++ [pD q] = (ps ++ [q]).map pD := by simp
    have := unlike_out (N := N) (A := some .tank) rfl hm h j (t + 1) (ps ++ [q]) T1 (some (.val (.int t))) (some (.val (pD q))) s' (by omega) (by simp [hl]) (by
      rw [List.nodup_append]
      exact ⟨nd, by simp, fun x hx y hy z => by simp at hy; subst hy; subst z; exact hn hx⟩) (fun p hp' => by
      rcases List.mem_append.mp hp' with f | f
      · exact hp p f
      · simp at f; subst f; exact hq) hT1
    rw [← e2] at this
    exact this
theorem w__law_unlike {T : Tk} {m : Nat} {k : KD} (hT : TkOk T) (hm : m ≤ 1000) (h : ∀ (ps : List P3) T', ps.length = m → ps.Nodup → (∀ p ∈ ps, Pt 40 p) → TkOk T' → k (.lst (ps.map pD)) T') : sm__law_unlike [.tank, .val (.int m)] T k := by
  rw [e__law_unlike, b__law_unlike]
  walk_at "ev"
  refine ⟨by omega, by omega, ?_⟩
  rw [Int.toNat_natCast]
  refine unlike_out (m := m) rfl hm (fun ps T' a b c h1 h2 h3 h4 => ?_) m 0 [] T _ _ _ (by omega) rfl (by simp) (by simp) hT
  walk_at "ev"
  exact h ps T' h1 h2 h3 h4
theorem w_unlike3 {T : Tk} {k : KD} (hT : TkOk T) (h : ∀ (p q r : P3) T', p ≠ q → p ≠ r → q ≠ r → Pt 40 p → Pt 40 q → Pt 40 r → TkOk T' → k (.lst [pD p, pD q, pD r]) T') : sm__law_unlike [.tank, .val (.int 3)] T k :=
  w__law_unlike (m := 3) hT (by decide) fun ps T' h1 h2 h3 h4 => by
    match ps, h1, h2, h3 with
    | [p, q, r], _, h2, h3 =>
      simp only [List.nodup_cons, List.mem_cons, List.not_mem_nil, or_false, not_or] at h2
      exact h p q r T' h2.1.1 h2.1.2 h2.2.1 (h3 p (by simp)) (h3 q (by simp)) (h3 r (by simp)) h4
theorem w_unlike4 {T : Tk} {k : KD} (hT : TkOk T) (h : ∀ (p q r s : P3) T', p ≠ q → p ≠ r → q ≠ r → p ≠ s → q ≠ s → r ≠ s → Pt 40 p → Pt 40 q → Pt 40 r → Pt 40 s → TkOk T' → k (.lst [pD p, pD q, pD r, pD s]) T') : sm__law_unlike [.tank, .val (.int 4)] T k :=
  w__law_unlike (m := 4) hT (by decide) fun ps T' h1 h2 h3 h4 => by
    match ps, h1, h2, h3 with
    | [p, q, r, s], _, h2, h3 =>
      simp only [List.nodup_cons, List.mem_cons, List.not_mem_nil, or_false, not_or] at h2
      exact h p q r s T' h2.1.1 h2.1.2.1 h2.2.1.1 h2.1.2.2 h2.2.1.2 h2.2.2.1 (h3 p (by simp)) (h3 q (by simp)) (h3 r (by simp)) (h3 s (by simp)) h4
theorem Rw.s4' {n : Nat} {r : R4} (h : Rw n r) : S4 n r := ⟨h.s1, h.s2, h.s3, h.s4⟩
def isI : D → Bool
  | .int _ => true
  | _ => false
def Pln : D → Prop
  | .obj _ _ _ => False
  | .ref _ => False
  | _ => True
def isW (n : Int) : D → Bool
  | .tup xs => decide ((xs.length : Int) = n) && xs.all isI
  | _ => false
structure VOk (d : D) : Prop where
  pln : Pln d
  len : ∀ xs, d = .tup xs → xs.length ≤ 1000
  el : ∀ xs, d = .tup xs → ∀ x ∈ xs, okN 3 x
  sz : ∀ xs, d = .tup xs → ∀ i, D.int i ∈ xs → Sz 100 i
theorem okN_pln {n : Nat} {d : D} (h : okN n d) : Pln d := by cases d <;> first | exact trivial | simp only [okN] at h
theorem ok_okN {n : Nat} {d : D} (h : okN n d) (l : n ≤ 64) : d.eqOk := by
  obtain ⟨h1, h2, h3⟩ := okN_ok h
  refine ⟨h1, ?_⟩
  unfold SeqAt.shaped
  rw [h2, Bool.true_and, decide_eq_true_eq]
  omega
theorem okL_of {n : Nat} : ∀ {xs : List D}, (∀ x ∈ xs, okN n x) → okL n xs
  | [], _ => by simp only [okL]
  | x :: xs, h => by
    simp only [okL]
    exact ⟨h x List.mem_cons_self, okL_of fun y hy => h y (List.mem_cons_of_mem _ hy)⟩
theorem isW_3 {d : D} (h : isW 3 d = true) : ∃ a b c, d = .tup [.int a, .int b, .int c] := by
  cases d with
  | tup xs =>
    simp only [isW, Bool.and_eq_true, decide_eq_true_eq] at h
    obtain ⟨hl, ha⟩ := h
    match xs, hl with
    | [x, y, z], _ =>
      simp only [List.all_cons, List.all_nil, Bool.and_true, Bool.and_eq_true] at ha
      obtain ⟨h1, h2, h3⟩ := ha
      cases x <;> first | (simp only [isI] at h1; exact absurd h1 (by decide)) | skip
      cases y <;> first | (simp only [isI] at h2; exact absurd h2 (by decide)) | skip
      cases z <;> first | (simp only [isI] at h3; exact absurd h3 (by decide)) | skip
      exact ⟨_, _, _, rfl⟩
    | [], h => exact absurd h (by decide)
    | [_], h => simp at h
    | [_, _], h => simp at h
    | _ :: _ :: _ :: _ :: _, h => simp at h; omega
  | _ => simp only [isW] at h; exact absurd h (by decide)
def isPl : D → Bool
  | .tup [.int a, .int b, .int c] => (decide (a = 1) && (decide (b = 0) && decide (c = 0))) || (decide (0 < c) && decide (gcdL 0 [a, b, c] = 1))
  | _ => false
theorem isPl_no {d : D} (h : isW 3 d = false) : isPl d = false := by
  unfold isPl
  split
  · simp [isW, isI] at h
  · rfl
theorem bls_all : ∀ xs : List D, bls? (xs.map fun x => D.bl (isI x)) = some (xs.map isI)
  | [] => rfl
  | x :: xs => by
    rw [List.map_cons, List.map_cons]
    simp only [bls?, bls_all xs, Option.map_some]
theorem all_isI (xs : List D) : (xs.map isI).all _root_.id = xs.all isI := by
  rw [List.all_map]
  rfl
theorem w_is_whole_v {T : Tk} {d : D} {k : KD} (hd : Pln d) (h : k (.bl (isI d)) T) : sm_is_whole [.val d] T k := by
  rw [e_is_whole, b_is_whole]
  cases d with
  | obj _ _ _ => exact hd.elim
  | ref _ => exact hd.elim
  | bl b => walk_at "wk"; simpa [isI, isTy] using h
  | int i => walk_at "wk"; simpa [isI, isTy] using h
  | non => walk_at "wk"; simpa [isI, isTy] using h
  | str s => walk_at "wk"; simpa [isI, isTy] using h
  | tup s => walk_at "wk"; simpa [isI, isTy] using h
  | lst s => walk_at "wk"; simpa [isI, isTy] using h
  | scr s => walk_at "wk"; simpa [isI, isTy] using h
  | dct s t => walk_at "wk"; simpa [isI, isTy] using h
theorem lc_wholes {A0 A1 : Option SV} {K : List D → Tk → Prop} : ∀ (xs : List D) (c : Option SV) (acc : List D) (T : Tk), (∀ x ∈ xs, Pln x) → K (acc ++ xs.map fun x => D.bl (isI x)) T →
    lcD [A0, A1, c] (cN 2) dYes (dCall 1 sm_is_whole (aCons (dVar 2) (aNil))) K xs acc T
  | [], c, acc, T, _, h => by
    rw [List.map_nil, List.append_nil] at h
    exact h
  | x :: xs, c, acc, T, hx, h => by
    walk_at "evn"
    refine w_is_whole_v (hx x List.mem_cons_self) ?_
    refine lc_wholes xs _ _ _ (fun y hy => hx y (List.mem_cons_of_mem _ hy)) ?_
    rw [List.append_assoc]
    exact h
theorem w_are_wholes_v {T : Tk} {d : D} {n : Int} {k : KD} (hd : VOk d) (h : k (.bl (isW n d)) T) : sm_are_wholes [.val d, .val (.int n)] T k := by
  rw [e_are_wholes, b_are_wholes]
  have pd := hd.pln
  cases d with
  | obj _ _ _ => exact pd.elim
  | ref _ => exact pd.elim
  | bl b => walk_at "wk"; simpa [isW, isTy] using h
  | int i => walk_at "wk"; simpa [isW, isTy] using h
  | non => walk_at "wk"; simpa [isW, isTy] using h
  | str s => walk_at "wk"; simpa [isW, isTy] using h
  | lst s => walk_at "wk"; simpa [isW, isTy] using h
  | scr s => walk_at "wk"; simpa [isW, isTy] using h
  | dct s t => walk_at "wk"; simpa [isW, isTy] using h
  | tup xs =>
    rw [isW] at h
    walk_at "wkn"
    by_cases e : (xs.length : Int) = n
    · rw [decide_eq_true e, Bool.true_and] at h
      rw [decide_eq_true e]
      walk_at "wkn"
      refine ⟨by have := hd.len xs rfl; omega, ?_⟩
      refine lc_wholes xs _ _ _ (fun x hx => okN_pln (hd.el xs rfl x hx)) ?_
      rw [List.nil_append]
      walk_at "wkn"
      rw [bls_all]
      walk_at "wkn"
      rw [show (xs.map isI).all (fun b => b) = xs.all isI from all_isI xs]
      exact h
    · rw [decide_eq_false e, Bool.false_and] at h
      rw [decide_eq_false e]
      walk_at "wkn"
      exact h
theorem w_is_place_v {T : Tk} {d : D} {k : KD} (hd : VOk d) (h : k (.bl (isPl d)) T) : sm_is_place [.val d] T k := by
  rw [e_is_place, b_is_place, k_FAR]
  walk_at "wkn"
  refine w_are_wholes_v hd ?_
  cases w : isW 3 d with
  | false =>
    rw [isPl_no w] at h
    walk_at "wkn"
    exact h
  | true =>
    obtain ⟨a, b, c, rfl⟩ := isW_3 w
    rw [isPl] at h
    walk_at "wkn"
    cases f : (decide (a = 1) && (decide (b = 0) && decide (c = 0))) with
    | true =>
      rw [f] at h
      walk_at "wkn"
      exact h
    | false =>
      rw [f, Bool.false_or] at h
      walk_at "wkn"
      by_cases p : 0 < c
      · rw [decide_eq_true p, Bool.true_and] at h
        rw [decide_eq_true p]
        walk_at "wkn"
        exact w_is_lowest (ns := [a, b, c]) (by simp) h
      · rw [decide_eq_false p, Bool.false_and] at h
        rw [decide_eq_false p]
        walk_at "wkn"
        exact h
theorem PlQ.cz {n : Nat} {p : P3} {u v : Rat} (h : PlQ n p u v) (l : n ≤ 100000) : Cz 100000 (p.1, p.2.1) := ⟨h.s1.mono l, h.s2.mono l⟩
theorem PlQ.nz {n : Nat} {q : P3} {u v : Rat} (h : PlQ n q u v) (h0 : ¬(q.1 = 0 ∧ q.2.1 = 0)) : u * u + v * v ≠ 0 := by
  have c := cnrm_pos (w := (q.1, q.2.1)) h0
  unfold cnrm at c
  simp only at c
  have e1 := h.e1
  have e2 := h.e2
  have e : ((q.1 * q.1 + q.2.1 * q.2.1 : Int) : Rat) = (u * u + v * v) * (q.2.2 * q.2.2 : Rat) := by push_cast; grind
  intro z
  rw [z] at e
  have : ((q.1 * q.1 + q.2.1 * q.2.1 : Int) : Rat) = ((0 : Int) : Rat) := by rw [e]; push_cast; grind
  have := cast_inj this
  omega
theorem w_quotient_place {T : Tk} {n : Nat} {a b c d : Int} {u v : Rat} {k : KD} (hz : Cz n (a, b)) (hw : Cz n (c, d)) (hn : n ≤ 4000) (h0 : 0 < cnrm (c, d)) (e1 : ((cmul (a, b) (cconj (c, d))).1 : Rat) = u * (cnrm (c, d) : Rat)) (e2 : ((cmul (a, b) (cconj (c, d))).2 : Rat) = v * (cnrm (c, d) : Rat))
    (h : ∀ q : P3, PlQ (n + n + 1) q u v → k (.tup [.int q.1, .int q.2.1, .int q.2.2]) T) : sm_quotient_place [.val (.tup [.int a, .int b]), .val (.tup [.int c, .int d])] T k := by
  rw [e_quotient_place, b_quotient_place, k_ZERO, k_FAR]
  walk_at "ev"
  refine ⟨⟨ok_cx, ok_cx⟩, ?_⟩
  rw [if_neg (fun e => by obtain ⟨rfl, rfl⟩ := e; exact absurd h0 (by decide))]
  refine w_turned_over ?_
  walk_at "ev"
  refine w_times (hz.mono (by omega)) (hw.conj.mono (by omega)) ?_
  rintro _ rfl
  walk_at "ev"
  refine w_square_size (hw.mono (by omega)) ?_
  walk_at "ev"
  have := hz.mul hw.conj
  exact w_low3 h0 this.1 this.2 hw.nrm (by omega) e1 e2 h
/-- q is the place of z over w -/
structure HP (n : Nat) (q : P3) (z w : Cx2) : Prop where
  pt : Pt n q
  e1 : q.1 * w.1 - q.2.1 * w.2 = q.2.2 * z.1
  e2 : q.1 * w.2 + q.2.1 * w.1 = q.2.2 * z.2
  nz : ¬((z.1 = 0 ∧ z.2 = 0) ∧ (w.1 = 0 ∧ w.2 = 0))
theorem HP.mono {m n : Nat} {q : P3} {z w : Cx2} (h : HP m q z w) (l : m ≤ n) : HP n q z w := ⟨h.pt.mono l, h.e1, h.e2, h.nz⟩
theorem cx_norm {a b c d : Int} (h : ¬(c = 0 ∧ d = 0)) (e1 : a * c - b * d = 0) (e2 : a * d + b * c = 0) : a = 0 ∧ b = 0 := by
  have n0 : c * c + d * d ≠ 0 := fun z => h (two_sq z)
  constructor
  · have : a * (c * c + d * d) = 0 := by
      have : a * (c * c + d * d) = (a * c - b * d) * c + (a * d + b * c) * d := by grind
      rw [this, e1, e2]; simp
    exact (Int.mul_eq_zero.mp this).resolve_right n0
  · have : b * (c * c + d * d) = 0 := by
      have : b * (c * c + d * d) = (a * d + b * c) * c - (a * c - b * d) * d := by grind
      rw [this, e1, e2]; simp
    exact (Int.mul_eq_zero.mp this).resolve_right n0
theorem HP.far {n : Nat} {q : P3} {z w : Cx2} (h : HP n q z w) : q.2.2 = 0 ↔ (w.1 = 0 ∧ w.2 = 0) := by
  constructor
  · intro e
    have := h.pt.far e
    have e1 := h.e1
    have e2 := h.e2
    rw [this] at e1 e2
    simp only [Int.one_mul, Int.zero_mul, Int.sub_zero, Int.add_zero] at e1 e2
    exact ⟨e1, e2⟩
  · rintro ⟨w1, w2⟩
    have e1 := h.e1
    have e2 := h.e2
    rw [w1, w2, Int.mul_zero, Int.mul_zero] at e1 e2
    by_cases r : q.2.2 = 0
    · exact r
    · exfalso
      apply h.nz
      refine ⟨⟨?_, ?_⟩, w1, w2⟩
      · exact (Int.mul_eq_zero.mp (by simpa using e1.symm)).resolve_left r
      · exact (Int.mul_eq_zero.mp (by simpa using e2.symm)).resolve_left r
/-- the same quotient -/
theorem HP.tr {n : Nat} {q : P3} {z w z' w' : Cx2} (h : HP n q z w) (nz : ¬((z'.1 = 0 ∧ z'.2 = 0) ∧ (w'.1 = 0 ∧ w'.2 = 0))) (e1 : z.1 * w'.1 - z.2 * w'.2 = z'.1 * w.1 - z'.2 * w.2) (e2 : z.1 * w'.2 + z.2 * w'.1 = z'.1 * w.2 + z'.2 * w.1) : HP n q z' w' := by
  have h1 := h.e1
  have h2 := h.e2
  by_cases w0 : w.1 = 0 ∧ w.2 = 0
  · have r := h.far.mpr w0
    have qf := h.pt.far r
    obtain ⟨w1, w2⟩ := w0
    rw [w1, w2] at e1 e2
    simp only [Int.mul_zero, Int.sub_zero, Int.add_zero] at e1 e2
    have z0 : ¬(z.1 = 0 ∧ z.2 = 0) := fun z0 => h.nz ⟨z0, w1, w2⟩
    have := cx_norm (a := w'.1) (b := w'.2) z0 (by rw [Int.mul_comm w'.1, Int.mul_comm w'.2]; exact e1) (by rw [Int.mul_comm w'.1, Int.mul_comm w'.2]; omega)
    refine ⟨h.pt, ?_, ?_, nz⟩
    · rw [qf, this.1, this.2]; simp
    · rw [qf, this.1, this.2]; simp
  · refine ⟨h.pt, ?_, ?_, nz⟩
    · have k := cx_norm (a := q.1 * w'.1 - q.2.1 * w'.2 - q.2.2 * z'.1) (b := q.1 * w'.2 + q.2.1 * w'.1 - q.2.2 * z'.2) w0 (by grind) (by grind)
      have := k.1
      omega
    · have k := cx_norm (a := q.1 * w'.1 - q.2.1 * w'.2 - q.2.2 * z'.1) (b := q.1 * w'.2 + q.2.1 * w'.1 - q.2.2 * z'.2) w0 (by grind) (by grind)
      have := k.2
      omega
theorem HP.self {n : Nat} {q : P3} (h : Pt n q) : HP n q (q.1, q.2.1) (q.2.2, 0) := by
  refine ⟨h, by simp only [Int.mul_zero, Int.sub_zero]; exact Int.mul_comm _ _, by simp only [Int.mul_zero, Int.zero_add]; exact Int.mul_comm _ _, ?_⟩
  rintro ⟨⟨a, b⟩, c, _⟩
  simp only at a b c
  have := h.far c
  rw [this] at a
  simp at a
theorem HP.uniq {m n : Nat} {q q' : P3} {z w : Cx2} (h : HP m q z w) (h' : HP n q' z w) : q = q' := by
  refine dd_zero h.pt h'.pt ?_
  have a1 := h.e1
  have a2 := h.e2
  have b1 := h'.e1
  have b2 := h'.e2
  by_cases w0 : w.1 = 0 ∧ w.2 = 0
  · have r := h.far.mpr w0
    have r' := h'.far.mpr w0
    unfold dd
    rw [r, r']
    simp
  · have k := cx_norm (a := q.1 * q'.2.2 - q'.1 * q.2.2) (b := q.2.1 * q'.2.2 - q'.2.1 * q.2.2) w0 (by grind) (by grind)
    unfold dd
    rw [k.1, k.2]
    rfl
theorem plq_hp {n : Nat} {q : P3} {u v : Rat} {z w : Cx2} (h : PlQ n q u v) (w0 : ¬(w.1 = 0 ∧ w.2 = 0)) (e1 : u * (w.1 : Rat) - v * (w.2 : Rat) = (z.1 : Rat)) (e2 : u * (w.2 : Rat) + v * (w.1 : Rat) = (z.2 : Rat)) : HP n q z w := by
  refine ⟨h.pt, cast_inj ?_, cast_inj ?_, fun e => w0 e.2⟩
  · push_cast; rw [h.e1, h.e2, ← e1]; generalize (q.2.2 : Rat) = R; grind
  · push_cast; rw [h.e1, h.e2, ← e2]; generalize (q.2.2 : Rat) = R; grind
theorem w_quotient_hp {T : Tk} {n : Nat} {z w : Cx2} {k : KD} (hz : Cz n z) (hw : Cz n w) (hn : n ≤ 4000) (nz : ¬((z.1 = 0 ∧ z.2 = 0) ∧ (w.1 = 0 ∧ w.2 = 0))) (h : ∀ q : P3, HP (2 * n + 1) q z w → k (.tup [.int q.1, .int q.2.1, .int q.2.2]) T) :
    sm_quotient_place [.val (.tup [.int z.1, .int z.2]), .val (.tup [.int w.1, .int w.2])] T k := by
  by_cases w0 : w.1 = 0 ∧ w.2 = 0
  · rw [e_quotient_place, b_quotient_place, k_ZERO, k_FAR]
    walk_at "ev"
    refine ⟨⟨ok_cx, ok_cx⟩, ?_⟩
    rw [if_pos w0]
    refine h (1, 0, 0) ⟨pt_far (by omega), ?_, ?_, nz⟩
    · rw [w0.1, w0.2]; simp
    · rw [w0.1, w0.2]; simp
  · have np := cnrm_pos w0
    have nr := rne' np
    refine w_quotient_place (u := ((cmul z (cconj w)).1 : Rat) / (cnrm w : Rat)) (v := ((cmul z (cconj w)).2 : Rat) / (cnrm w : Rat)) (show Cz n (z.1, z.2) from hz) (show Cz n (w.1, w.2) from hw) hn np ?_ ?_ fun q hq => h q ((plq_hp hq w0 ?_ ?_).mono (by omega))
    · show ((cmul z (cconj w)).1 : Rat) = _ * (cnrm w : Rat)
      generalize (cnrm w : Rat) = N at *
      grind
    · show ((cmul z (cconj w)).2 : Rat) = _ * (cnrm w : Rat)
      generalize (cnrm w : Rat) = N at *
      grind
    · unfold cnrm at nr ⊢
      unfold cmul cconj
      push_cast at nr ⊢
      generalize (w.1 : Rat) = a at *
      generalize (w.2 : Rat) = b at *
      generalize (z.1 : Rat) = c at *
      generalize (z.2 : Rat) = d at *
      grind
    · unfold cnrm at nr ⊢
      unfold cmul cconj
      push_cast at nr ⊢
      generalize (w.1 : Rat) = a at *
      generalize (w.2 : Rat) = b at *
      generalize (z.1 : Rat) = c at *
      generalize (z.2 : Rat) = d at *
      grind

def jn (r x : R4) : Int := r.2.1 * x.2.1 + r.2.2.1 * x.2.2.1 - 2 * (r.1 * x.2.2.2 + x.1 * r.2.2.2)
def df1 (p q : P3) : Int := p.1 * q.2.2 - q.1 * p.2.2
def df2 (p q : P3) : Int := p.2.1 * q.2.2 - q.2.1 * p.2.2
def ui (p q r s : P3) : Int := df1 p r * df2 q s + df2 p r * df1 q s
theorem jn_comm (r x : R4) : jn r x = jn x r := by unfold jn; grind
/-- complex numbers with whole parts, as a ring -/
structure Gi where
  re : Int
  im : Int
theorem Gi.ext' {a b : Gi} (h : a.re = b.re) (q : a.im = b.im) : a = b := by
  cases a; cases b; simp only at h q; subst h q; rfl
def Gi.npw (a : Gi) : Nat → Gi
  | 0 => ⟨1, 0⟩
  | n + 1 => ⟨(Gi.npw a n).re * a.re - (Gi.npw a n).im * a.im, (Gi.npw a n).re * a.im + (Gi.npw a n).im * a.re⟩
instance : Add Gi := ⟨fun a b => ⟨a.re + b.re, a.im + b.im⟩⟩
instance : Mul Gi := ⟨fun a b => ⟨a.re * b.re - a.im * b.im, a.re * b.im + a.im * b.re⟩⟩
instance : Neg Gi := ⟨fun a => ⟨-a.re, -a.im⟩⟩
instance : Sub Gi := ⟨fun a b => ⟨a.re - b.re, a.im - b.im⟩⟩
instance : NatCast Gi := ⟨fun n => ⟨n, 0⟩⟩
instance : IntCast Gi := ⟨fun n => ⟨n, 0⟩⟩
instance (n : Nat) : OfNat Gi n := ⟨⟨n, 0⟩⟩
instance : SMul Nat Gi := ⟨fun n a => (n : Gi) * a⟩
instance : SMul Int Gi := ⟨fun n a => (n : Gi) * a⟩
instance : HPow Gi Nat Gi := ⟨Gi.npw⟩
theorem Gi.add_re (a b : Gi) : (a + b).re = a.re + b.re := rfl
theorem Gi.add_im (a b : Gi) : (a + b).im = a.im + b.im := rfl
theorem Gi.sub_re (a b : Gi) : (a - b).re = a.re - b.re := rfl
theorem Gi.sub_im (a b : Gi) : (a - b).im = a.im - b.im := rfl
theorem Gi.mul_re (a b : Gi) : (a * b).re = a.re * b.re - a.im * b.im := rfl
theorem Gi.mul_im (a b : Gi) : (a * b).im = a.re * b.im + a.im * b.re := rfl
theorem Gi.neg_re (a : Gi) : (-a).re = -a.re := rfl
theorem Gi.neg_im (a : Gi) : (-a).im = -a.im := rfl
theorem Gi.zero_re : (0 : Gi).re = 0 := rfl
theorem Gi.zero_im : (0 : Gi).im = 0 := rfl
theorem Gi.one_re : (1 : Gi).re = 1 := rfl
theorem Gi.one_im : (1 : Gi).im = 0 := rfl
theorem Gi.eq0 {a : Gi} : (a.re = 0 ∧ a.im = 0) ↔ a = 0 := ⟨fun ⟨x, y⟩ => Gi.ext' x y, fun h => by rw [h]; exact ⟨rfl, rfl⟩⟩
instance : Lean.Grind.CommRing Gi where
  add_zero a := Gi.ext' (Int.add_zero _) (Int.add_zero _)
  add_comm a b := Gi.ext' (Int.add_comm _ _) (Int.add_comm _ _)
  add_assoc a b c := Gi.ext' (Int.add_assoc _ _ _) (Int.add_assoc _ _ _)
  mul_assoc a b c := Gi.ext' (by simp only [Gi.mul_re, Gi.mul_im]; grind) (by simp only [Gi.mul_re, Gi.mul_im]; grind)
  mul_one a := Gi.ext' (by simp only [Gi.mul_re, Gi.one_re, Gi.one_im]; omega) (by simp only [Gi.mul_im, Gi.one_re, Gi.one_im]; omega)
  one_mul a := Gi.ext' (by simp only [Gi.mul_re, Gi.one_re, Gi.one_im]; omega) (by simp only [Gi.mul_im, Gi.one_re, Gi.one_im]; omega)
  right_distrib a b c := Gi.ext' (by simp only [Gi.mul_re, Gi.add_re, Gi.add_im]; grind) (by simp only [Gi.mul_im, Gi.add_re, Gi.add_im]; grind)
  mul_zero a := Gi.ext' (by simp only [Gi.mul_re, Gi.zero_re, Gi.zero_im]; omega) (by simp only [Gi.mul_im, Gi.zero_re, Gi.zero_im]; omega)
  left_distrib a b c := Gi.ext' (by simp only [Gi.mul_re, Gi.add_re, Gi.add_im]; grind) (by simp only [Gi.mul_im, Gi.add_re, Gi.add_im]; grind)
  zero_mul a := Gi.ext' (by simp only [Gi.mul_re, Gi.zero_re, Gi.zero_im]; omega) (by simp only [Gi.mul_im, Gi.zero_re, Gi.zero_im]; omega)
  pow_zero a := rfl
  pow_succ a n := rfl
  ofNat_succ n := Gi.ext' (by show ((n + 1 : Nat) : Int) = (n : Int) + 1; omega) rfl
  ofNat_eq_natCast n := rfl
  nsmul_eq_natCast_mul n a := rfl
  neg_add_cancel a := Gi.ext' (Int.add_left_neg _) (Int.add_left_neg _)
  sub_eq_add_neg a b := Gi.ext' Int.sub_eq_add_neg Int.sub_eq_add_neg
  neg_zsmul i a := Gi.ext' (by show (-i) * a.re - 0 * a.im = -(i * a.re - 0 * a.im); grind) (by show (-i) * a.im + 0 * a.re = -(i * a.im + 0 * a.re); grind)
  zsmul_natCast_eq_nsmul n a := rfl
  intCast_ofNat n := rfl
  intCast_neg i := Gi.ext' rfl (by show (0 : Int) = -0; rfl)
  mul_comm a b := Gi.ext' (by simp only [Gi.mul_re]; grind) (by simp only [Gi.mul_im]; grind)
def Gi.cj (a : Gi) : Gi := ⟨a.re, -a.im⟩
def Gi.nm (a : Gi) : Int := a.re * a.re + a.im * a.im
theorem Gi.cj_add (a b : Gi) : (a + b).cj = a.cj + b.cj := Gi.ext' rfl (by show -(a.im + b.im) = -a.im + -b.im; omega)
theorem Gi.cj_sub (a b : Gi) : (a - b).cj = a.cj - b.cj := Gi.ext' rfl (by show -(a.im - b.im) = -a.im - -b.im; omega)
theorem Gi.cj_neg (a : Gi) : (-a).cj = -a.cj := rfl
theorem Gi.cj_mul (a b : Gi) : (a * b).cj = a.cj * b.cj := Gi.ext' (by show a.re * b.re - a.im * b.im = a.re * b.re - -a.im * -b.im; grind) (by show -(a.re * b.im + a.im * b.re) = a.re * -b.im + -a.im * b.re; grind)
theorem Gi.cj_cj (a : Gi) : a.cj.cj = a := Gi.ext' rfl (Int.neg_neg _)
theorem Gi.nm_mul (a b : Gi) : (a * b).nm = a.nm * b.nm := by unfold Gi.nm; simp only [Gi.mul_re, Gi.mul_im]; grind
theorem Gi.nm_cj (a : Gi) : a.cj.nm = a.nm := by unfold Gi.nm Gi.cj; simp only; grind
theorem Gi.nm_nn (a : Gi) : 0 ≤ a.nm := by
  have := mul_self_nonneg' a.re
  have := mul_self_nonneg' a.im
  unfold Gi.nm; omega
theorem Gi.nm_zero {a : Gi} (h : a.nm = 0) : a = 0 := by
  unfold Gi.nm at h
  have h1 := mul_self_nonneg' a.re
  have h2 := mul_self_nonneg' a.im
  refine Gi.ext' ?_ ?_
  · by_cases c : a.re = 0
    · exact c
    · have := imul_self_pos c; omega
  · by_cases c : a.im = 0
    · exact c
    · have := imul_self_pos c; omega
theorem Gi.nm_pos {a : Gi} (h : a ≠ 0) : 0 < a.nm := by
  rcases Int.lt_or_eq_of_le a.nm_nn with e | e
  · exact e
  · exact absurd (Gi.nm_zero e.symm) h
theorem Gi.nm_of_zero : (0 : Gi).nm = 0 := rfl
theorem Gi.mul_zero' {a b : Gi} (h : a * b = 0) : a = 0 ∨ b = 0 := by
  have e := Gi.nm_mul a b
  rw [h, Gi.nm_of_zero] at e
  rcases Int.mul_eq_zero.mp e.symm with f | f
  · exact .inl (Gi.nm_zero f)
  · exact .inr (Gi.nm_zero f)
theorem Gi.mul_ne {a b : Gi} (h : a ≠ 0) (q : b ≠ 0) : a * b ≠ 0 := fun e => (Gi.mul_zero' e).elim h q
theorem Gi.cancel {a b c : Gi} (h : c ≠ 0) (e : c * a = c * b) : a = b := by
  have : c * (a - b) = 0 := by grind
  have := (Gi.mul_zero' this).resolve_left h
  grind
theorem Gi.cj_ne {a : Gi} (h : a ≠ 0) : a.cj ≠ 0 := fun e => h (by have := congrArg Gi.cj e; rw [Gi.cj_cj] at this; exact this)
instance : DecidableEq Gi := fun a b => if h : a.re = b.re ∧ a.im = b.im then .isTrue (Gi.ext' h.1 h.2) else .isFalse fun e => h (by rw [e]; exact ⟨rfl, rfl⟩)
/-- norms below 2 ^ n -/
def Nz (n : Nat) (a : Gi) : Prop := a.nm < 2 ^ n
theorem Nz.sz {n : Nat} {a : Gi} (h : Nz n a) : Sz n a.re ∧ Sz n a.im := by
  unfold Nz Gi.nm at h
  have h1 := mul_self_nonneg' a.re
  have h2 := mul_self_nonneg' a.im
  have key : ∀ x : Int, x * x < 2 ^ n → Sz n x := fun x hx => by
    have e : ((x.natAbs * x.natAbs : Nat) : Int) = x * x := Int.natAbs_mul_self' x ▸ (by push_cast; rfl)
    have e2 : x.natAbs * x.natAbs < 2 ^ n := by
      have : ((x.natAbs * x.natAbs : Nat) : Int) < ((2 ^ n : Nat) : Int) := by rw [e]; push_cast; exact hx
      exact_mod_cast this
    have : x.natAbs ≤ x.natAbs * x.natAbs := by
      rcases Nat.eq_zero_or_pos x.natAbs with z | z
      · rw [z]; exact Nat.le_refl _
      · exact Nat.le_mul_of_pos_left _ z
    unfold Sz
    omega
  exact ⟨key _ (by omega), key _ (by omega)⟩
theorem Nz.mono {m n : Nat} {a : Gi} (h : Nz m a) (l : m ≤ n) : Nz n a := by
  have : (2 : Int) ^ m ≤ 2 ^ n := by exact_mod_cast Nat.pow_le_pow_right (n := 2) (by decide) l
  unfold Nz at *
  omega
theorem Nz.cj {n : Nat} {a : Gi} (h : Nz n a) : Nz n a.cj := by unfold Nz at *; rw [Gi.nm_cj]; exact h
theorem Nz.dvd {n : Nat} {a b : Gi} (hb : b ≠ 0) (h : Nz n (b * a)) : Nz n a := by
  unfold Nz at *
  rw [Gi.nm_mul] at h
  have h1 := Gi.nm_pos hb
  have h2 := a.nm_nn
  have : a.nm ≤ b.nm * a.nm := by
    have := Int.mul_le_mul_of_nonneg_right (show 1 ≤ b.nm by omega) h2
    omega
  omega
theorem Nz.mul {m n : Nat} {a b : Gi} (h : Nz m a) (q : Nz n b) : Nz (m + n) (a * b) := by
  unfold Nz at *
  rw [Gi.nm_mul, Int.pow_add]
  generalize (2 : Int) ^ m = A at *
  generalize (2 : Int) ^ n = B at *
  have ha := a.nm_nn
  have hb := b.nm_nn
  have h1 := Int.mul_le_mul (show a.nm ≤ A - 1 by omega) (show b.nm ≤ B - 1 by omega) hb (by omega)
  have h2 : (A - 1) * (B - 1) = A * B - A - B + 1 := by grind
  omega
theorem Nz.add {n : Nat} {a b : Gi} (h : Nz n a) (q : Nz n b) : Nz (n + 2) (a + b) := by
  unfold Nz at *
  have e : (a + b).nm ≤ 2 * a.nm + 2 * b.nm := by
    have d : 2 * a.nm + 2 * b.nm - (a + b).nm = (a - b).nm := by unfold Gi.nm; simp only [Gi.add_re, Gi.add_im, Gi.sub_re, Gi.sub_im]; grind
    have := (a - b).nm_nn
    omega
  have p : (2 : Int) ^ (n + 2) = 4 * 2 ^ n := by rw [Int.pow_add]; omega
  omega
theorem Nz.neg {n : Nat} {a : Gi} (h : Nz n a) : Nz n (-a) := by
  unfold Nz at *
  have : (-a).nm = a.nm := by unfold Gi.nm; simp only [Gi.neg_re, Gi.neg_im]; grind
  omega
/-- g is a greatest common divisor of a and b -/
structure G2 (g a b : Gi) : Prop where
  l : ∃ x, a = x * g
  r : ∃ x, b = x * g
  s : ∃ u v, g = u * a + v * b
theorem G2.zero (a : Gi) : G2 a a 0 := ⟨⟨1, by grind⟩, ⟨0, by grind⟩, ⟨1, 0, by grind⟩⟩
theorem G2.step {g a b q : Gi} (h : G2 g b (a - q * b)) : G2 g a b := by
  obtain ⟨⟨x, hx⟩, ⟨y, hy⟩, u, v, hs⟩ := h
  exact ⟨⟨y + q * x, by grind⟩, ⟨x, hx⟩, v, u - v * q, by grind⟩
def nearI (a n : Int) : Int := (2 * a + n) / (2 * n)
theorem nearI_ok {a n : Int} (h : 0 < n) : -n ≤ 2 * (a - nearI a n * n) ∧ 2 * (a - nearI a n * n) ≤ n := by
  unfold nearI
  have e := Int.mul_ediv_add_emod (2 * a + n) (2 * n)
  have l := Int.emod_nonneg (2 * a + n) (show 2 * n ≠ 0 by omega)
  have r := Int.emod_lt_of_pos (2 * a + n) (show 0 < 2 * n by omega)
  generalize (2 * a + n) / (2 * n) = q at *
  generalize (2 * a + n) % (2 * n) = t at *
  have : 2 * (q * n) = 2 * n * q := by grind
  constructor <;> grind
def nearG (a b : Gi) : Gi := ⟨nearI (a * b.cj).re b.nm, nearI (a * b.cj).im b.nm⟩
theorem sq_half {x n : Int} (h1 : -n ≤ 2 * x) (h2 : 2 * x ≤ n) : 4 * (x * x) ≤ n * n := by
  have := Int.mul_nonneg (show 0 ≤ n - 2 * x by omega) (show 0 ≤ n + 2 * x by omega)
  have : (n - 2 * x) * (n + 2 * x) = n * n - 4 * (x * x) := by grind
  omega
theorem nearG_nm {a b : Gi} (h : b ≠ 0) : 2 * (a - nearG a b * b).nm ≤ b.nm := by
  have p := Gi.nm_pos h
  have e : (a - nearG a b * b) * b.cj = ⟨(a * b.cj).re - nearI (a * b.cj).re b.nm * b.nm, (a * b.cj).im - nearI (a * b.cj).im b.nm * b.nm⟩ := by
    have f : b * b.cj = ⟨b.nm, 0⟩ := Gi.ext' (by show b.re * b.re - b.im * -b.im = b.re * b.re + b.im * b.im; grind) (by show b.re * -b.im + b.im * b.re = 0; grind)
    have g : (a - nearG a b * b) * b.cj = a * b.cj - nearG a b * (b * b.cj) := by grind
    rw [g, f]
    refine Gi.ext' ?_ ?_
    · simp only [Gi.sub_re, Gi.mul_re, nearG]; grind
    · simp only [Gi.sub_im, Gi.mul_im, nearG]; grind
  have m := Gi.nm_mul (a - nearG a b * b) b.cj
  rw [e, Gi.nm_cj] at m
  obtain ⟨h1, h2⟩ := nearI_ok (a := (a * b.cj).re) p
  obtain ⟨h3, h4⟩ := nearI_ok (a := (a * b.cj).im) p
  have q1 := sq_half h1 h2
  have q2 := sq_half h3 h4
  have : 4 * ((a - nearG a b * b).nm * b.nm) ≤ 2 * (b.nm * b.nm) := by
    have m' : (a - nearG a b * b).nm * b.nm = ((a * b.cj).re - nearI (a * b.cj).re b.nm * b.nm) * ((a * b.cj).re - nearI (a * b.cj).re b.nm * b.nm) + ((a * b.cj).im - nearI (a * b.cj).im b.nm * b.nm) * ((a * b.cj).im - nearI (a * b.cj).im b.nm * b.nm) := m.symm
    omega
  have : (2 * (a - nearG a b * b).nm) * b.nm ≤ b.nm * b.nm := by
    have : (2 * (a - nearG a b * b).nm) * b.nm = 2 * ((a - nearG a b * b).nm * b.nm) := by grind
    omega
  exact Int.le_of_mul_le_mul_right this p
theorem G2.nz {g a b : Gi} (h : G2 g a b) (z : g = 0) : a = 0 ∧ b = 0 := by
  obtain ⟨⟨x, hx⟩, ⟨y, hy⟩, _⟩ := h
  subst z
  constructor <;> grind
abbrev G4 := Gi × Gi × Gi × Gi
/-- g is a greatest common divisor of four numbers -/
structure GD (g : Gi) (m : G4) : Prop where
  d1 : ∃ x, m.1 = x * g
  d2 : ∃ x, m.2.1 = x * g
  d3 : ∃ x, m.2.2.1 = x * g
  d4 : ∃ x, m.2.2.2 = x * g
  s : ∃ u v w t, g = u * m.1 + v * m.2.1 + w * m.2.2.1 + t * m.2.2.2
theorem gd_of {a b c d g1 g2 g3 g4 : Gi} (h1 : G2 g1 0 a) (h2 : G2 g2 g1 b) (h3 : G2 g3 g2 c) (h4 : G2 g4 g3 d) : GD g4 (a, b, c, d) := by
  obtain ⟨_, ⟨x1, e1⟩, u1, v1, s1⟩ := h1
  obtain ⟨⟨y2, f2⟩, ⟨x2, e2⟩, u2, v2, s2⟩ := h2
  obtain ⟨⟨y3, f3⟩, ⟨x3, e3⟩, u3, v3, s3⟩ := h3
  obtain ⟨⟨y4, f4⟩, ⟨x4, e4⟩, u4, v4, s4⟩ := h4
  have k2 : g2 = y3 * y4 * g4 := by rw [f3, f4]; grind
  have k1 : g1 = y2 * y3 * y4 * g4 := by rw [f2, k2]; grind
  refine ⟨⟨x1 * y2 * y3 * y4, ?_⟩, ⟨x2 * y3 * y4, ?_⟩, ⟨x3 * y4, ?_⟩, ⟨x4, e4⟩, u4 * u3 * u2 * v1, u4 * u3 * v2, u4 * v3, v4, ?_⟩
  · simp only; rw [e1, k1]; grind
  · simp only; rw [e2, k2]; grind
  · simp only; rw [e3, f4]; grind
  · simp only; rw [s4, s3, s2, s1]; grind
def fst4 (m : G4) : Gi := if m.1 ≠ 0 then m.1 else if m.2.1 ≠ 0 then m.2.1 else if m.2.2.1 ≠ 0 then m.2.2.1 else m.2.2.2
def scl (c : Gi) (m : G4) : G4 := (c * m.1, c * m.2.1, c * m.2.2.1, c * m.2.2.2)
theorem fst4_scl {c : Gi} (h : c ≠ 0) (m : G4) : fst4 (scl c m) = c * fst4 m := by
  have k : ∀ x : Gi, c * x ≠ 0 ↔ x ≠ 0 := fun x => ⟨fun e z => e (by rw [z]; grind), fun e => Gi.mul_ne h e⟩
  unfold fst4 scl
  simp only [k]
  split
  · rfl
  split
  · rfl
  split
  · rfl
  · rfl
/-- in the quarter -/
def Qf (a : Gi) : Prop := 0 < a.re ∧ 0 ≤ a.im
structure Mp (m : G4) : Prop where
  bez : ∃ u v w t, u * m.1 + v * m.2.1 + w * m.2.2.1 + t * m.2.2.2 = 1
  qf : Qf (fst4 m)
theorem unit_nm {s t : Gi} (h : s * t = 1) : s.nm = 1 := by
  have e := Gi.nm_mul s t
  rw [h] at e
  have e : s.nm * t.nm = 1 := e.symm
  have h1 := s.nm_nn
  have h2 := t.nm_nn
  have s0 : s.nm ≠ 0 := fun z => by rw [z, Int.zero_mul] at e; omega
  have t0 : t.nm ≠ 0 := fun z => by rw [z, Int.mul_zero] at e; omega
  have := Int.mul_le_mul_of_nonneg_left (show 1 ≤ t.nm by omega) h1
  omega
theorem unit_4 {s : Gi} (h : s.nm = 1) : (s.re = 1 ∧ s.im = 0) ∨ (s.re = -1 ∧ s.im = 0) ∨ (s.re = 0 ∧ s.im = 1) ∨ (s.re = 0 ∧ s.im = -1) := by
  unfold Gi.nm at h
  have h1 := mul_self_nonneg' s.re
  have h2 := mul_self_nonneg' s.im
  have k : ∀ x : Int, x * x ≤ 1 → x = 0 ∨ x = 1 ∨ x = -1 := fun x hx => by
    rcases Int.lt_trichotomy x 0 with f | f | f
    · by_cases g : x = -1
      · exact .inr (.inr g)
      · have := Int.mul_le_mul_of_nonneg_left (show 2 ≤ -x by omega) (show 0 ≤ -x by omega); rw [Int.neg_mul_neg] at this; omega
    · exact .inl f
    · by_cases g : x = 1
      · exact .inr (.inl g)
      · have := Int.mul_le_mul_of_nonneg_left (show 2 ≤ x by omega) (show 0 ≤ x by omega); omega
  rcases k s.re (by omega) with f | f | f <;> rcases k s.im (by omega) with g | g | g <;> rw [f, g] at h ⊢ <;> simp at h ⊢
theorem qf_unit {s f : Gi} (h : s.nm = 1) (q : Qf f) (q' : Qf (s * f)) : s = 1 := by
  unfold Qf at q q'
  rw [Gi.mul_re, Gi.mul_im] at q'
  rcases unit_4 h with ⟨a, b⟩ | ⟨a, b⟩ | ⟨a, b⟩ | ⟨a, b⟩ <;> rw [a, b] at q'
  · exact Gi.ext' a b
  · omega
  · omega
  · omega
/-- maps along one another are the same -/
theorem mp_uniq {m m' : G4} {c c' : Gi} (h : Mp m) (h' : Mp m') (c0 : c ≠ 0) (c0' : c' ≠ 0) (e : scl c m = scl c' m') : m = m' := by
  obtain ⟨⟨u, v, w, t, hb⟩, hq⟩ := h
  obtain ⟨⟨u', v', w', t', hb'⟩, hq'⟩ := h'
  have ef := fst4_scl c0 m
  rw [e, fst4_scl c0'] at ef
  obtain ⟨a, b, p, d⟩ := m
  obtain ⟨a', b', p', d'⟩ := m'
  unfold scl at e
  simp only [Prod.mk.injEq] at e hb hb'
  obtain ⟨e1, e2, e3, e4⟩ := e
  have k1 : c = c' * (u * a' + v * b' + w * p' + t * d') := by
    have : c = c * (u * a + v * b + w * p + t * d) := by rw [hb]; grind
    have e : c * (u * a + v * b + w * p + t * d) = u * (c * a) + v * (c * b) + w * (c * p) + t * (c * d) := by grind
    rw [this, e, e1, e2, e3, e4]; grind
  have k2 : c' = c * (u' * a + v' * b + w' * p + t' * d) := by
    have : c' = c' * (u' * a' + v' * b' + w' * p' + t' * d') := by rw [hb']; grind
    have e : c' * (u' * a' + v' * b' + w' * p' + t' * d') = u' * (c' * a') + v' * (c' * b') + w' * (c' * p') + t' * (c' * d') := by grind
    rw [this, e, ← e1, ← e2, ← e3, ← e4]; grind
  generalize u * a' + v * b' + w * p' + t * d' = s at k1
  generalize u' * a + v' * b + w' * p + t' * d = s' at k2
  have ss : s * s' = 1 := by
    refine Gi.cancel (c := c') c0' ?_
    have : c' * (s * s') = c * s' := by rw [k1]; grind
    rw [this, ← k2]; grind
  have ns := unit_nm ss
  have q1 : fst4 (a', b', p', d') = s * fst4 (a, b, p, d) := by
    refine Gi.cancel (c := c') c0' ?_
    rw [ef]
    have : c' * (s * fst4 (a, b, p, d)) = (c' * s) * fst4 (a, b, p, d) := by grind
    rw [this, ← k1]
  rw [q1] at hq'
  have s1 := qf_unit ns hq hq'
  have cc : c = c' := by rw [k1, s1]; grind
  rw [cc] at e1 e2 e3 e4
  rw [Gi.cancel c0' e1, Gi.cancel c0' e2, Gi.cancel c0' e3, Gi.cancel c0' e4]

def zG (q : P3) : Gi := ⟨q.1, q.2.1⟩
def rG (q : P3) : Gi := ⟨q.2.2, 0⟩
/-- q is the place of z over w -/
structure HG (n : Nat) (q : P3) (z w : Gi) : Prop where
  pt : Pt n q
  e : zG q * w = rG q * z
  nz : ¬(z = 0 ∧ w = 0)
theorem HG.hp {n : Nat} {q : P3} {z w : Gi} (h : HG n q z w) : HP n q (z.re, z.im) (w.re, w.im) := by
  have e := h.e
  have e1 := congrArg Gi.re e
  have e2 := congrArg Gi.im e
  simp only [Gi.mul_re, Gi.mul_im, zG, rG] at e1 e2
  exact ⟨h.pt, by simp only; omega, by simp only; omega, fun ⟨a, b⟩ => h.nz ⟨Gi.eq0.mp a, Gi.eq0.mp b⟩⟩
theorem HP.hg {n : Nat} {q : P3} {z w : Gi} (h : HP n q (z.re, z.im) (w.re, w.im)) : HG n q z w := by
  have e1 := h.e1
  have e2 := h.e2
  simp only at e1 e2
  refine ⟨h.pt, Gi.ext' ?_ ?_, fun ⟨a, b⟩ => h.nz ⟨Gi.eq0.mpr a, Gi.eq0.mpr b⟩⟩
  · simp only [Gi.mul_re, zG, rG]; omega
  · simp only [Gi.mul_im, zG, rG]; omega
theorem HG.uniq {m n : Nat} {q q' : P3} {z w : Gi} (h : HG m q z w) (h' : HG n q' z w) : q = q' := h.hp.uniq h'.hp
theorem HG.tr {n : Nat} {q : P3} {z w z' w' : Gi} (h : HG n q z w) (nz : ¬(z' = 0 ∧ w' = 0)) (e : z * w' = z' * w) : HG n q z' w' := by
  refine HP.hg (h.hp.tr (fun ⟨a, b⟩ => nz ⟨Gi.eq0.mp a, Gi.eq0.mp b⟩) ?_ ?_)
  · have := congrArg Gi.re e
    simpa only [Gi.mul_re] using this
  · have := congrArg Gi.im e
    simpa only [Gi.mul_im] using this
theorem HG.self {n : Nat} {q : P3} (h : Pt n q) : HG n q (zG q) (rG q) := HP.hg (HP.self h)
/-- two ways to write one place -/
theorem HG.cross {m n : Nat} {q : P3} {z w z' w' : Gi} (h : HG m q z w) (h' : HG n q z' w') : z * w' = z' * w := by
  have a := h.e
  have b := h'.e
  have s := (HG.self h.pt).nz
  by_cases r : rG q = 0
  · have z0 : zG q ≠ 0 := fun z0 => s ⟨z0, r⟩
    rw [r] at a b
    have w0 : w = 0 := (Gi.mul_zero' (a.trans (by grind))).resolve_left z0
    have w0' : w' = 0 := (Gi.mul_zero' (b.trans (by grind))).resolve_left z0
    rw [w0, w0']
    grind
  · refine Gi.cancel (c := rG q) r ?_
    have : rG q * (z * w') = (rG q * z) * w' := by grind
    have k : rG q * (z' * w) = (rG q * z') * w := by grind
    rw [this, k, ← a, ← b]
    grind
def dtG (m : G4) : Gi := m.1 * m.2.2.2 - m.2.1 * m.2.2.1
def apz (m : G4) (z w : Gi) : Gi := m.1 * z + m.2.1 * w
def apw (m : G4) (z w : Gi) : Gi := m.2.2.1 * z + m.2.2.2 * w
theorem ap_nz {m : G4} {z w : Gi} (d : dtG m ≠ 0) (h : ¬(z = 0 ∧ w = 0)) : ¬(apz m z w = 0 ∧ apw m z w = 0) := by
  rintro ⟨a, b⟩
  unfold apz at a
  unfold apw at b
  have k1 : dtG m * z = 0 := by
    have : dtG m * z = m.2.2.2 * (m.1 * z + m.2.1 * w) - m.2.1 * (m.2.2.1 * z + m.2.2.2 * w) := by unfold dtG; grind
    rw [this, a, b]; grind
  have k2 : dtG m * w = 0 := by
    have : dtG m * w = m.1 * (m.2.2.1 * z + m.2.2.2 * w) - m.2.2.1 * (m.1 * z + m.2.1 * w) := by unfold dtG; grind
    rw [this, a, b]; grind
  exact h ⟨(Gi.mul_zero' k1).resolve_left d, (Gi.mul_zero' k2).resolve_left d⟩
theorem HG.map {l n : Nat} {m : G4} {q t : P3} {z w : Gi} (d : dtG m ≠ 0) (h : HG l q z w) (ht : HG n t (apz m (zG q) (rG q)) (apw m (zG q) (rG q))) : HG n t (apz m z w) (apw m z w) := by
  refine ht.tr (ap_nz d h.nz) ?_
  have e := h.e
  have : apz m (zG q) (rG q) * apw m z w - apz m z w * apw m (zG q) (rG q) = dtG m * (zG q * w - rG q * z) := by unfold apz apw dtG; grind
  rw [e] at this
  have : apz m (zG q) (rG q) * apw m z w - apz m z w * apw m (zG q) (rG q) = 0 := by rw [this]; grind
  grind
def cjP (q : P3) : P3 := (q.1, -q.2.1, q.2.2)
theorem zG_cj (q : P3) : zG (cjP q) = (zG q).cj := rfl
theorem rG_cj (q : P3) : rG (cjP q) = rG q := rfl
theorem rG_self (q : P3) : (rG q).cj = rG q := Gi.ext' rfl (by show -(0 : Int) = 0; rfl)
theorem gcd_cj {a b c : Int} : gcdL 0 [a, -b, c] = gcdL 0 [a, b, c] := by
  unfold gcdL gcdL gcdL gcdL
  have : iGcd (iGcd 0 a) (-b) = iGcd (iGcd 0 a) b := by
    show ((Nat.gcd _ _ : Nat) : Int) = ((Nat.gcd _ _ : Nat) : Int)
    rw [Int.natAbs_neg]
  rw [this]
theorem Pt.cj {n : Nat} {q : P3} (h : Pt n q) : Pt n (cjP q) := by
  refine ⟨?_, (gcd_cj).trans h.one, h.s1, h.s2.neg, h.s3⟩
  rcases h.ok with ⟨a, b, c⟩ | c
  · exact .inl ⟨a, by show -q.2.1 = 0; omega, c⟩
  · exact .inr c
theorem HG.cj {n : Nat} {q : P3} {z w : Gi} (h : HG n q z w) : HG n (cjP q) z.cj w.cj := by
  refine ⟨h.pt.cj, ?_, fun ⟨a, b⟩ => h.nz ⟨?_, ?_⟩⟩
  · rw [zG_cj, rG_cj, ← Gi.cj_mul, h.e, Gi.cj_mul, rG_self]
  · have := congrArg Gi.cj a; rw [Gi.cj_cj] at this; exact this
  · have := congrArg Gi.cj b; rw [Gi.cj_cj] at this; exact this
/-- the first number, conjugate if the map is mirrored -/
def fl (f : Int) (z : Gi) : Gi := if f = 1 then z.cj else z
theorem fl_ne {f : Int} {z : Gi} (h : z ≠ 0) : fl f z ≠ 0 := by unfold fl; split; exact Gi.cj_ne h; exact h
/-- t is where the map leads q -/
def Led (n : Nat) (f : Int) (m : G4) (q t : P3) : Prop := HG n t (apz m (fl f (zG q)) (rG q)) (apw m (fl f (zG q)) (rG q))
theorem Led.uniq {l n : Nat} {f : Int} {m : G4} {q t t' : P3} (h : Led l f m q t) (h' : Led n f m q t') : t = t' := HG.uniq h h'
theorem fl_nz {n : Nat} {f : Int} {q : P3} (h : Pt n q) : ¬(fl f (zG q) = 0 ∧ rG q = 0) := by
  have s := (HG.self h).nz
  rintro ⟨a, b⟩
  refine s ⟨?_, b⟩
  unfold fl at a
  split at a
  · have := congrArg Gi.cj a; rw [Gi.cj_cj] at this; exact this
  · exact a
theorem led_nz {n : Nat} {f : Int} {m : G4} {q : P3} (d : dtG m ≠ 0) (h : Pt n q) : ¬(apz m (fl f (zG q)) (rG q) = 0 ∧ apw m (fl f (zG q)) (rG q) = 0) := ap_nz d (fl_nz h)
theorem Led.inj {l n a b : Nat} {f : Int} {m : G4} {q q' t : P3} (d : dtG m ≠ 0) (hq : Pt a q) (hq' : Pt b q') (h : Led l f m q t) (h' : Led n f m q' t) : q = q' := by
  have c := HG.cross h h'
  have k : dtG m * (fl f (zG q) * rG q' - fl f (zG q') * rG q) = 0 := by
    have : dtG m * (fl f (zG q) * rG q' - fl f (zG q') * rG q) = apz m (fl f (zG q)) (rG q) * apw m (fl f (zG q')) (rG q') - apz m (fl f (zG q')) (rG q') * apw m (fl f (zG q)) (rG q) := by unfold dtG apz apw; grind
    rw [this, c]; grind
  have k := (Gi.mul_zero' k).resolve_left d
  have k2 : zG q * rG q' - zG q' * rG q = 0 := by
    unfold fl at k
    split at k
    · have := congrArg Gi.cj k
      rw [Gi.cj_sub, Gi.cj_mul, Gi.cj_mul, Gi.cj_cj, Gi.cj_cj, rG_self, rG_self] at this
      exact this
    · exact k
  refine dd_zero hq hq' ?_
  have e1 := congrArg Gi.re k2
  have e2 := congrArg Gi.im k2
  simp only [Gi.sub_re, Gi.sub_im, Gi.mul_re, Gi.mul_im, zG, rG, Gi.zero_re, Gi.zero_im] at e1 e2
  unfold dd
  have f1 : q.1 * q'.2.2 - q'.1 * q.2.2 = 0 := by omega
  have f2 : q.2.1 * q'.2.2 - q'.2.1 * q.2.2 = 0 := by omega
  rw [f1, f2]
  rfl
/-- one matrix after another; the second one's conjugate if the first map is mirrored -/
def flm (f : Int) (m : G4) : G4 := (fl f m.1, fl f m.2.1, fl f m.2.2.1, fl f m.2.2.2)
def mulm (m n : G4) : G4 := (m.1 * n.1 + m.2.1 * n.2.2.1, m.1 * n.2.1 + m.2.1 * n.2.2.2, m.2.2.1 * n.1 + m.2.2.2 * n.2.2.1, m.2.2.1 * n.2.1 + m.2.2.2 * n.2.2.2)
def Pr (f : Int) (m n : G4) : G4 := mulm m (flm f n)
def adjm (m : G4) : G4 := (m.2.2.2, -m.2.1, -m.2.2.1, m.1)
def Bk (f : Int) (m : G4) : G4 := flm f (adjm m)
theorem dt_mul (m n : G4) : dtG (mulm m n) = dtG m * dtG n := by unfold dtG mulm; simp only; grind
theorem dt_fl (f : Int) (m : G4) : dtG (flm f m) = fl f (dtG m) := by
  unfold dtG flm fl
  simp only
  split
  · rw [Gi.cj_sub, Gi.cj_mul, Gi.cj_mul]
  · rfl
theorem dt_adj (m : G4) : dtG (adjm m) = dtG m := by unfold dtG adjm; simp only; grind
theorem dt_scl (c : Gi) (m : G4) : dtG (scl c m) = c * c * dtG m := by unfold dtG scl; simp only; grind
theorem dt_fst {m : G4} (d : dtG m ≠ 0) : fst4 m ≠ 0 := fun z => by
  apply d
  unfold fst4 at z
  unfold dtG
  split at z
  · rename_i c; exact absurd z c
  · rename_i c1
    split at z
    · rename_i c; exact absurd z c
    · rename_i c2
      have a1 : m.1 = 0 := Classical.byContradiction c1
      have a2 : m.2.1 = 0 := Classical.byContradiction c2
      rw [a1, a2]
      grind
theorem ap_mul (m n : G4) (z w : Gi) : apz (mulm m n) z w = apz m (apz n z w) (apw n z w) ∧ apw (mulm m n) z w = apw m (apz n z w) (apw n z w) := by
  unfold apz apw mulm; simp only; constructor <;> grind
theorem ap_scl (c : Gi) (m : G4) (z w : Gi) : apz (scl c m) z w = c * apz m z w ∧ apw (scl c m) z w = c * apw m z w := by
  unfold apz apw scl; simp only; constructor <;> grind
/-- led by a multiple -/
theorem Led.scl {n : Nat} {f : Int} {c : Gi} {m : G4} {q t : P3} (c0 : c ≠ 0) (h : Led n f (scl c m) q t) : Led n f m q t := by
  unfold Led at *
  rw [(ap_scl _ _ _ _).1, (ap_scl _ _ _ _).2] at h
  refine h.tr (fun ⟨a, b⟩ => h.nz ⟨?_, ?_⟩) (by grind)
  · rw [a]; grind
  · rw [b]; grind
/-- led twice -/
theorem Led.two {l n a : Nat} {f g : Int} {m1 m2 : G4} {q s t : P3} (d : dtG m1 ≠ 0) (hf : f = 0 ∨ f = 1) (hg : g = 0 ∨ g = 1) (hs : Led l g m2 q s) (ht : Led n f m1 s t) : Led n ((f + g) % 2) (Pr f m1 m2) q t := by
  unfold Led at *
  have e : ∀ (z w : Gi), apz (flm 1 m2) z w = (apz m2 z.cj w.cj).cj ∧ apw (flm 1 m2) z w = (apw m2 z.cj w.cj).cj := fun z w => by
    unfold apz apw flm fl
    simp only [if_true, Gi.cj_add, Gi.cj_mul, Gi.cj_cj, and_self]
  rcases hf with rfl | rfl
  · have k := HG.map (m := m1) d hs ht
    have e0 : flm 0 m2 = m2 := rfl
    unfold Pr
    rw [e0, (ap_mul _ _ _ _).1, (ap_mul _ _ _ _).2]
    have eg : ((0 + g) % 2 : Int) = g := by rcases hg with rfl | rfl <;> rfl
    rw [eg]
    exact k
  · have k := HG.map (m := m1) (q := cjP s) d hs.cj ht
    unfold Pr
    rw [(ap_mul _ _ _ _).1, (ap_mul _ _ _ _).2, (e _ _).1, (e _ _).2, rG_self]
    have ez : (fl ((1 + g) % 2) (zG q)).cj = fl g (zG q) := by
      rcases hg with rfl | rfl
      · show ((zG q).cj).cj = zG q; exact Gi.cj_cj _
      · rfl
    rw [ez]
    exact k
theorem bk_pr {f g : Int} (hf : f = 0 ∨ f = 1) (hg : g = 0 ∨ g = 1) (m n : G4) : Bk ((f + g) % 2) (Pr f m n) = Pr g (Bk g n) (Bk f m) := by
  rcases hf with rfl | rfl <;> rcases hg with rfl | rfl <;> simp only [Bk, Pr, flm, fl, mulm, adjm, Prod.mk.injEq] <;> simp [Gi.cj_add, Gi.cj_mul, Gi.cj_cj, Gi.cj_neg] <;> grind
theorem pr_back {f : Int} (hf : f = 0 ∨ f = 1) (m : G4) : Pr f (Bk f m) m = scl (fl f (dtG m)) (1, 0, 0, 1) ∧ Pr f m (Bk f m) = scl (dtG m) (1, 0, 0, 1) := by
  rcases hf with rfl | rfl <;> simp only [Bk, Pr, flm, fl, mulm, adjm, scl, dtG, Prod.mk.injEq] <;> simp [Gi.cj_add, Gi.cj_mul, Gi.cj_cj, Gi.cj_neg, Gi.cj_sub] <;> grind
theorem bk_bk {f : Int} (hf : f = 0 ∨ f = 1) (m : G4) : Bk f (Bk f m) = m := by
  obtain ⟨a, b, c, d⟩ := m
  rcases hf with rfl | rfl <;> simp only [Bk, flm, fl, adjm, Prod.mk.injEq] <;> simp [Gi.cj_cj, Gi.cj_neg] <;> grind
theorem bk_scl (f : Int) (c : Gi) (m : G4) : Bk f (scl c m) = scl (fl f c) (Bk f m) := by
  unfold Bk flm fl adjm scl
  simp only [Prod.mk.injEq]
  split <;> simp only [Gi.cj_neg, Gi.cj_mul] <;> grind
theorem pr_scl (f : Int) (c d : Gi) (m n : G4) : Pr f (scl c m) (scl d n) = scl (c * fl f d) (Pr f m n) := by
  unfold Pr mulm flm fl scl
  simp only [Prod.mk.injEq]
  split <;> (try simp only [Gi.cj_mul]) <;> grind

abbrev gD (a : Gi) : D := .tup [.int a.re, .int a.im]
theorem ok_gD {a : Gi} : (gD a).eqOk := ok_cx
theorem Nz.cz {n : Nat} {a : Gi} (h : Nz n a) : Cz n (a.re, a.im) := h.sz
theorem sz_nm {n : Nat} {a : Gi} (h : Nz n a) : Sz n a.nm := by
  have := a.nm_nn
  unfold Nz at h
  unfold Sz
  have e : ((2 ^ n : Nat) : Int) = 2 ^ n := by push_cast; rfl
  omega
theorem w_nearest {T : Tk} {a n : Int} {k : KD} (h0 : 0 < n) (hs : Sz 8000 n) (h : k (.int (nearI a n)) T) : sm_nearest [.val (.int a), .val (.int n)] T k := by
  rw [e_nearest, b_nearest]
  walk_at "evn"
  exact ⟨lit_mul (by decide), lit_mul (by decide), ((show Sz 2 2 by unfold Sz; decide).mul hs).divOk (by decide) (by omega), h⟩
theorem w_timesG {T : Tk} {m n : Nat} {a b : Gi} {k : KD} (ha : Cz m (a.re, a.im)) (hb : Cz n (b.re, b.im)) (hm : m ≤ 100000) (hn : n ≤ 100000) (h : k (gD (a * b)) T) : sm_times [.val (gD a), .val (gD b)] T k :=
  w_times (ha.mono hm) (hb.mono hn) fun p hp => by subst hp; exact h
theorem w_minusG {T : Tk} {a b : Gi} {k : KD} (h : k (gD (a - b)) T) : sm_minus [.val (gD a), .val (gD b)] T k := w_minus h
theorem w_plusG {T : Tk} {a b : Gi} {k : KD} (h : k (gD (a + b)) T) : sm_plus [.val (gD a), .val (gD b)] T k := w_plus h
theorem w_turnG {T : Tk} {a : Gi} {k : KD} (h : k (gD a.cj) T) : sm_turned_over [.val (gD a)] T k := w_turned_over h
theorem w_divisor_of_two {T : Tk} {n : Nat} {a b : Gi} {k : KD} (ha : Nz n a) (hb : Nz n b) (hn : n ≤ 2000) (h : ∀ g, G2 g a b → Nz n g → k (gD g) T) : sm_divisor_of_two [.val (gD a), .val (gD b)] T k := by
  rw [e_divisor_of_two, b_divisor_of_two, k_ZERO]
  walk_at "evm"
  unfold sWhile
  refine ⟨fun m ρ T' => T' = T ∧ ∃ (c d : Gi) (x y : Option SV), ρ = [some (.val (gD a)), some (.val (gD b)), some (.val (gD c)), some (.val (gD d)), x, y] ∧ m = d.nm.toNat ∧ Nz n c ∧ Nz n d ∧ ∀ g, G2 g c d → G2 g a b, ⟨_, rfl, a, b, none, none, rfl, rfl, ha, hb, fun _ q => q⟩, ?_⟩
  rintro m ρ T' ⟨rfl, c, d, x, y, rfl, rfl, hc, hd, tr⟩
  walk_at "evm"
  refine ⟨⟨ok_gD, ok_cx⟩, ?_⟩
  by_cases d0 : d = 0
  · rw [if_neg (by rw [d0]; decide)]
    subst d0
    exact h c (tr c (G2.zero c)) hc
  have p := Gi.nm_pos d0
  rw [if_pos (by
    have : ¬(d.re = 0 ∧ d.im = 0) := fun z => d0 (Gi.eq0.mp z)
    simp only [Bool.and_eq_false_imp, decide_eq_true_eq, decide_eq_false_iff_not]
    first | exact fun z1 z2 => this ⟨z1, z2⟩ | simpa using this)]
  refine w_turnG ?_
  walk_at "evm"
  refine w_timesG (b := d.cj) hc.cz (hd.cj).cz (by omega) (by omega) ?_
  walk_at "evm"
  refine w_square_size ((hd.cz).mono (by omega)) ?_
  walk_at "evm"
  refine w_nearest p ((sz_nm hd).mono (by omega)) ?_
  walk_at "evm"
  refine w_square_size ((hd.cz).mono (by omega)) ?_
  walk_at "evm"
  refine w_nearest p ((sz_nm hd).mono (by omega)) ?_
  walk_at "evm"
  have nq : Nz (n + 2) (nearG c d) := by
    have h2 : Nz n (c - nearG c d * d) := by
      have := nearG_nm (a := c) d0
      have := (c - nearG c d * d).nm_nn
      unfold Nz at hd ⊢
      omega
    refine Nz.dvd d0 ?_
    have e : d * nearG c d = c + -(c - nearG c d * d) := by grind
    rw [e]
    exact hc.add h2.neg
  refine w_timesG (a := nearG c d) (b := d) nq.cz hd.cz (by omega) (by omega) ?_
  walk_at "evm"
  refine w_minusG ?_
  walk_at "evm"
  have lt := nearG_nm (a := c) d0
  have nn := (c - nearG c d * d).nm_nn
  refine ⟨(c - nearG c d * d).nm.toNat, by omega, d, c - nearG c d * d, _, _, rfl, rfl, hd, ?_, fun g hg => tr g (G2.step hg)⟩
  unfold Nz at hd ⊢
  omega

theorem cdivd_mulG {x g : Gi} (h : g ≠ 0) : cdivd ((x * g).re, (x * g).im) (g.re, g.im) = some (x.re, x.im) := by
  have p : 0 < cnrm (g.re, g.im) := Gi.nm_pos h
  have e1 : (cmul ((x * g).re, (x * g).im) (cconj (g.re, g.im))).1 = x.re * cnrm (g.re, g.im) := by
    simp only [cmul, cconj, cnrm, Gi.mul_re, Gi.mul_im]; grind
  have e2 : (cmul ((x * g).re, (x * g).im) (cconj (g.re, g.im))).2 = x.im * cnrm (g.re, g.im) := by
    simp only [cmul, cconj, cnrm, Gi.mul_re, Gi.mul_im]; grind
  unfold cdivd
  rw [e1, e2, Int.mul_emod_left, Int.mul_emod_left, if_pos ⟨rfl, rfl⟩, Int.mul_ediv_cancel _ (by omega), Int.mul_ediv_cancel _ (by omega)]
def guni (f : Gi) : Gi := ⟨(cunit (f.re, f.im)).1, (cunit (f.re, f.im)).2⟩
theorem guni_nm (f : Gi) : (guni f).nm = 1 := by
  unfold guni cunit
  split
  · rfl
  split
  · rfl
  split
  · rfl
  · rfl
theorem guni_qf {f : Gi} (h : f ≠ 0) : Qf (f * guni f) := by
  have h' : ¬(f.re = 0 ∧ f.im = 0) := fun z => h (Gi.eq0.mp z)
  unfold Qf
  rw [Gi.mul_re, Gi.mul_im]
  unfold guni cunit
  simp only
  split
  · rename_i c; simp only; omega
  split
  · rename_i c; simp only; omega
  split
  · rename_i c; simp only; omega
  · simp only; omega
theorem nm1_inv {u : Gi} (h : u.nm = 1) : u * u.cj = 1 := Gi.ext' (by show u.re * u.re - u.im * -u.im = 1; unfold Gi.nm at h; grind) (by show u.re * -u.im + u.im * u.re = 0; grind)
theorem nm1_ne {u : Gi} (h : u.nm = 1) : u ≠ 0 := fun z => by rw [z] at h; exact absurd h (by decide)
abbrev mD (f : Int) (m : G4) : D := .tup [.int f, gD m.1, gD m.2.1, gD m.2.2.1, gD m.2.2.2]
/-- m is the map of four numbers -/
structure Fm (n : Nat) (N m : G4) : Prop where
  mp : Mp m
  c : ∃ c, c ≠ 0 ∧ N = scl c m
  s1 : Nz n m.1
  s2 : Nz n m.2.1
  s3 : Nz n m.2.2.1
  s4 : Nz n m.2.2.2
theorem Fm.uniq {n l : Nat} {N m m' : G4} (h : Fm n N m) (h' : Fm l N m') : m = m' := by
  obtain ⟨c, c0, e⟩ := h.c
  obtain ⟨c', c0', e'⟩ := h'.c
  exact mp_uniq h.mp h'.mp c0 c0' (e.symm.trans e')
/-- the quotients by a greatest common divisor, times a unit, are the map -/
theorem fm_of' {n : Nat} {x : G4} {g U : Gi} (un : U.nm = 1) (qf : Qf (fst4 x * U)) (g0 : g ≠ 0) (hd : ∃ u v w t, g = u * (x.1 * g) + v * (x.2.1 * g) + w * (x.2.2.1 * g) + t * (x.2.2.2 * g)) (s1 : Nz n (x.1 * g)) (s2 : Nz n (x.2.1 * g)) (s3 : Nz n (x.2.2.1 * g)) (s4 : Nz n (x.2.2.2 * g)) :
    Fm n (x.1 * g, x.2.1 * g, x.2.2.1 * g, x.2.2.2 * g) (x.1 * U, x.2.1 * U, x.2.2.1 * U, x.2.2.2 * U) := by
  have ui := nm1_inv un
  have u0 := nm1_ne un
  have c0 : g * U.cj ≠ 0 := Gi.mul_ne g0 (Gi.cj_ne u0)
  have ef : fst4 (x.1 * U, x.2.1 * U, x.2.2.1 * U, x.2.2.2 * U) = fst4 x * U := by
    have := fst4_scl u0 x
    have e : scl U x = (x.1 * U, x.2.1 * U, x.2.2.1 * U, x.2.2.2 * U) := by
      unfold scl
      rw [show U * x.1 = x.1 * U by grind, show U * x.2.1 = x.2.1 * U by grind, show U * x.2.2.1 = x.2.2.1 * U by grind, show U * x.2.2.2 = x.2.2.2 * U by grind]
    rw [← e, this]
    grind
  have sz : ∀ y : Gi, Nz n (y * g) → Nz n (y * U) := fun y hy => by
    unfold Nz at *
    rw [Gi.nm_mul] at hy ⊢
    rw [un]
    have := Gi.nm_pos g0
    have := y.nm_nn
    have := Int.mul_le_mul_of_nonneg_left (show 1 ≤ g.nm by omega) (show 0 ≤ y.nm by omega)
    omega
  refine ⟨⟨?_, by rw [ef]; exact qf⟩, ⟨g * U.cj, c0, ?_⟩, sz _ s1, sz _ s2, sz _ s3, sz _ s4⟩
  · obtain ⟨u, v, w, t, e⟩ := hd
    refine ⟨u * U.cj, v * U.cj, w * U.cj, t * U.cj, ?_⟩
    simp only
    have k : g * (u * x.1 + v * x.2.1 + w * x.2.2.1 + t * x.2.2.2) = g * 1 := by grind
    have k := Gi.cancel g0 k
    have : u * U.cj * (x.1 * U) + v * U.cj * (x.2.1 * U) + w * U.cj * (x.2.2.1 * U) + t * U.cj * (x.2.2.2 * U) = (u * x.1 + v * x.2.1 + w * x.2.2.1 + t * x.2.2.2) * (U * U.cj) := by grind
    rw [this, k, ui]
    grind
  · unfold scl
    simp only
    have k : ∀ y : Gi, y * g = g * U.cj * (y * U) := fun y => by
      have : g * U.cj * (y * U) = y * g * (U * U.cj) := by grind
      rw [this, ui]
      grind
    rw [← k, ← k, ← k, ← k]
theorem fm_of {n : Nat} {x : G4} {g : Gi} (g0 : g ≠ 0) (hd : ∃ u v w t, g = u * (x.1 * g) + v * (x.2.1 * g) + w * (x.2.2.1 * g) + t * (x.2.2.2 * g)) (f0 : fst4 x ≠ 0) (s1 : Nz n (x.1 * g)) (s2 : Nz n (x.2.1 * g)) (s3 : Nz n (x.2.2.1 * g)) (s4 : Nz n (x.2.2.2 * g)) :
    Fm n (x.1 * g, x.2.1 * g, x.2.2.1 * g, x.2.2.2 * g) (x.1 * guni (fst4 x), x.2.1 * guni (fst4 x), x.2.2.1 * guni (fst4 x), x.2.2.2 * guni (fst4 x)) := fm_of' (guni_nm _) (guni_qf f0) g0 hd s1 s2 s3 s4
/-- the numbers that are not 0 -/
def nzG : List Gi → List Gi
  | [] => []
  | x :: r => if x = 0 then nzG r else x :: nzG r
theorem nzG_head {x : G4} (h : fst4 x ≠ 0) : ∃ r, nzG [x.1, x.2.1, x.2.2.1, x.2.2.2] = fst4 x :: r := by
  unfold fst4 at *
  by_cases h1 : x.1 = 0
  · by_cases h2 : x.2.1 = 0
    · by_cases h3 : x.2.2.1 = 0
      · simp only [h1, h2, h3, ne_eq, not_true_eq_false, if_false] at h ⊢
        refine ⟨[], ?_⟩
        simp only [nzG, if_true, if_neg h]
      · simp only [h1, h2, h3, ne_eq, not_true_eq_false, not_false_eq_true, if_false, if_true] at h ⊢
        refine ⟨nzG [x.2.2.2], ?_⟩
        rw [nzG, if_pos rfl, nzG, if_pos rfl, nzG, if_neg h3]
    · simp only [h1, h2, ne_eq, not_true_eq_false, not_false_eq_true, if_false, if_true] at h ⊢
      refine ⟨nzG [x.2.2.1, x.2.2.2], ?_⟩
      rw [nzG, if_pos rfl, nzG, if_neg h2]
  · simp only [h1, ne_eq, not_false_eq_true, if_true] at h ⊢
    refine ⟨nzG [x.2.1, x.2.2.1, x.2.2.2], ?_⟩
    rw [nzG, if_neg h1]

theorem w_divisor_of_all {T : Tk} {n : Nat} {N : G4} {NS : D} {k : KD} (hN : NS.it? = some [gD N.1, gD N.2.1, gD N.2.2.1, gD N.2.2.2]) (s1 : Nz n N.1) (s2 : Nz n N.2.1) (s3 : Nz n N.2.2.1) (s4 : Nz n N.2.2.2) (hn : n ≤ 2000) (h : ∀ g, GD g N → Nz n g → k (gD g) T) : sm_divisor_of_all [.val NS] T k := by
  rw [e_divisor_of_all, b_divisor_of_all, k_ZERO]
  walk_at "evm"
  simp only [hN]
  refine ⟨by simp, ?_⟩
  rw [forL_c]
  walk_at "evm"
  have z0 : Nz n 0 := by unfold Nz; rw [Gi.nm_of_zero]; exact Int.pow_pos (by decide)
  refine w_divisor_of_two (a := 0) z0 s1 hn fun g1 h1 n1 => ?_
  walk_at "evm"
  rw [forL_c]
  walk_at "evm"
  refine w_divisor_of_two n1 s2 hn fun g2 h2 n2 => ?_
  walk_at "evm"
  rw [forL_c]
  walk_at "evm"
  refine w_divisor_of_two n2 s3 hn fun g3 h3 n3 => ?_
  walk_at "evm"
  rw [forL_c]
  walk_at "evm"
  refine w_divisor_of_two n3 s4 hn fun g4 h4 n4 => ?_
  walk_at "evm"
  rw [forL_n]
  walk_at "evm"
  exact h g4 (gd_of h1 h2 h3 h4) n4
theorem lc_nzK {A0 A1 A2 A3 A5 : Option SV} {K : List D → Tk → Prop} : ∀ (xs : List Gi) (c : Option SV) (acc : List D) (T : Tk), K (acc ++ (nzG xs).map gD) T →
    lcD [A0, A1, A2, A3, c, A5] (cN 4) (dTst (dOp (oF fNe) (dVar 4) (dC (.tup [.int 0, .int 0])))) (dVar 4) K (xs.map gD) acc T
  | [], c, acc, T, h => by
    rw [nzG, List.map_nil, List.append_nil] at h
    exact h
  | x :: xs, c, acc, T, h => by
    rw [List.map_cons]
    walk_at "evn"
    refine ⟨⟨ok_gD, ok_cx⟩, ?_⟩
    by_cases q : x = 0
    · rw [if_neg (by rw [q]; decide)]
      rw [nzG, if_pos q] at h
      exact lc_nzK xs _ _ _ h
    · rw [if_pos (by
        have : ¬(x.re = 0 ∧ x.im = 0) := fun z => q (Gi.eq0.mp z)
        simp only [Bool.and_eq_false_imp, decide_eq_true_eq, decide_eq_false_iff_not]
        first | exact fun z1 z2 => this ⟨z1, z2⟩ | simpa using this)]
      rw [nzG, if_neg q, List.map_cons] at h
      refine lc_nzK xs _ _ _ ?_
      rw [List.append_assoc]
      exact h
theorem fst4_zero {x : G4} {g : Gi} (h : fst4 (x.1 * g, x.2.1 * g, x.2.2.1 * g, x.2.2.2 * g) ≠ 0) : g ≠ 0 ∧ fst4 x ≠ 0 := by
  have g0 : g ≠ 0 := fun z => by
    subst z
    apply h
    have k : ∀ y : Gi, y * 0 = 0 := fun y => by grind
    unfold fst4
    simp only [k, ne_eq, not_true_eq_false, if_false]
  refine ⟨g0, fun z => h ?_⟩
  have := fst4_scl g0 x
  have e : scl g x = (x.1 * g, x.2.1 * g, x.2.2.1 * g, x.2.2.2 * g) := by
    unfold scl
    rw [show g * x.1 = x.1 * g by grind, show g * x.2.1 = x.2.1 * g by grind, show g * x.2.2.1 = x.2.2.1 * g by grind, show g * x.2.2.2 = x.2.2.2 * g by grind]
  rw [e, z] at this
  rw [this]
  grind
theorem fst4_nz {n : Nat} {x : G4} (s1 : Nz n x.1) (s2 : Nz n x.2.1) (s3 : Nz n x.2.2.1) (s4 : Nz n x.2.2.2) : Nz n (fst4 x) := by
  unfold fst4
  split
  · exact s1
  split
  · exact s2
  split
  · exact s3
  · exact s4
theorem w_dividedG {T : Tk} {n : Nat} {x g : Gi} {k : KD} (s : Nz n (x * g)) (sg : Nz n g) (g0 : g ≠ 0) (hn : n ≤ 2000) (h : k (gD x) T) : sm_divided [.val (gD (x * g)), .val (gD g)] T k := by
  refine w_divided (s.cz.mono (by omega)) (sg.cz.mono (by omega)) (Gi.nm_pos g0) ?_
  rw [cdivd_mulG g0]
  exact h

/-- a comprehension without a test, whose element is computed from the item alone -/
theorem lc_map {α : Type} {ρ : En} {c : dC1} {el : dE} {K : List D → Tk → Prop} {fi fo : α → D} : ∀ (xs : List α) (acc : List D) (T : Tk), (∀ x ∈ xs, ∃ ρ1, c (fi x) ρ = some ρ1 ∧ ∀ T (k : KD), k (fo x) T → el ρ1 T k) → K (acc ++ xs.map fo) T →
    lcD ρ c dYes el K (xs.map fi) acc T
  | [], acc, T, _, h => by
    rw [List.map_nil, List.append_nil] at h
    exact h
  | x :: xs, acc, T, hx, h => by
    obtain ⟨ρ1, e, q⟩ := hx x (List.mem_cons_self ..)
    rw [List.map_cons, lcD, e]
    show el ρ1 T _
    refine q _ _ ?_
    refine lc_map xs _ _ (fun y hy => hx y (List.mem_cons_of_mem _ hy)) ?_
    rw [List.append_assoc]
    exact h
theorem w_form_of {T : Tk} {n : Nat} {f : Int} {N : G4} {NS : D} {k : KD} (hN : NS.it? = some [gD N.1, gD N.2.1, gD N.2.2.1, gD N.2.2.2]) (s1 : Nz n N.1) (s2 : Nz n N.2.1) (s3 : Nz n N.2.2.1) (s4 : Nz n N.2.2.2) (hn : n ≤ 2000) (nz : fst4 N ≠ 0) (h : ∀ m, Fm n N m → k (mD f m) T) : sm_form_of [.val (.int f), .val NS] T k := by
  rw [e_form_of, b_form_of, k_ZERO]
  generalize e1 : dCall 2 sm_divided (aCons (dVar 4) (aCons (dVar 2) (aNil))) = el1
  generalize e2 : dCall 2 sm_times (aCons (dVar 4) (aCons (dVar 5) (aNil))) = el2
  walk_at "evm"
  refine w_divisor_of_all hN s1 s2 s3 s4 hn fun g gd ng => ?_
  obtain ⟨N1, N2, N3, N4⟩ := N
  obtain ⟨⟨x1, q1⟩, ⟨x2, q2⟩, ⟨x3, q3⟩, ⟨x4, q4⟩, u, v, w, t, es⟩ := gd
  simp only at q1 q2 q3 q4
  subst q1 q2 q3 q4
  obtain ⟨g0, f0⟩ := fst4_zero (x := (x1, x2, x3, x4)) nz
  have fin := h _ (fm_of (x := (x1, x2, x3, x4)) g0 ⟨u, v, w, t, es⟩ f0 s1 s2 s3 s4)
  have y1 := Nz.dvd (a := x1) g0 (by rw [show g * x1 = x1 * g by grind]; exact s1)
  have y2 := Nz.dvd (a := x2) g0 (by rw [show g * x2 = x2 * g by grind]; exact s2)
  have y3 := Nz.dvd (a := x3) g0 (by rw [show g * x3 = x3 * g by grind]; exact s3)
  have y4 := Nz.dvd (a := x4) g0 (by rw [show g * x4 = x4 * g by grind]; exact s4)
  have nf := fst4_nz (x := (x1, x2, x3, x4)) y1 y2 y3 y4
  obtain ⟨r, er⟩ := nzG_head f0
  simp only at er
  have nu : Nz 1 (guni (fst4 (x1, x2, x3, x4))) := by unfold Nz; rw [guni_nm]; decide
  walk_at "evm"
  simp only [hN]
  refine ⟨by simp, ?_⟩
  refine lc_map (fi := fun x => gD (x * g)) (fo := gD) [x1, x2, x3, x4] _ _ (fun x hx => ⟨_, rfl, fun T k hk => ?_⟩) ?_
  · have sx : Nz n (x * g) := by
      simp only [List.mem_cons, List.not_mem_nil, or_false] at hx
      rcases hx with rfl | rfl | rfl | rfl
      · exact s1
      · exact s2
      · exact s3
      · exact s4
    rw [← e1]
    walk_at "evm"
    exact w_dividedG (x := x) (g := g) sx ng g0 hn hk
  rw [List.nil_append, List.map_cons, List.map_cons, List.map_cons, List.map_cons, List.map_nil]
  walk_at "evm"
  refine lc_nzK [x1, x2, x3, x4] _ _ _ ?_
  rw [List.nil_append, er, List.map_cons]
  walk_at "evm"
  refine w_unit_for (nf.cz.mono (by omega)) fun p hp => ?_
  have ep : D.tup [.int p.1, .int p.2] = gD (guni (fst4 (x1, x2, x3, x4))) := by rw [hp]; rfl
  rw [ep]
  walk_at "evm"
  refine lc_map (fi := gD) (fo := fun x => gD (x * guni (fst4 (x1, x2, x3, x4)))) [x1, x2, x3, x4] _ _ (fun x hx => ⟨_, rfl, fun T k hk => ?_⟩) ?_
  · have sx : Nz n x := by
      simp only [List.mem_cons, List.not_mem_nil, or_false] at hx
      rcases hx with rfl | rfl | rfl | rfl
      · exact y1
      · exact y2
      · exact y3
      · exact y4
    rw [← e2]
    walk_at "evm"
    exact w_timesG sx.cz nu.cz (by omega) (by omega) hk
  rw [List.nil_append]
  walk_at "evm"
  first | exact fin | exact ⟨by simp, fin⟩ | exact ⟨by decide, fin⟩

theorem w_scaled {T : Tk} {n : Nat} {a : Gi} {c : Int} {k : KD} (ha : Cz n (a.re, a.im)) (hc : Sz n c) (hn : n ≤ 100000) (h : k (.tup [.int (c * a.re), .int (c * a.im)]) T) : sm_scaled [.val (gD a), .val (.int c)] T k := by
  rw [e_scaled, b_scaled]
  walk_at "evn"
  exact ⟨hc.mulOk ha.1 (by omega) (by omega), hc.mulOk ha.2 (by omega) (by omega), h⟩
theorem w_determinant {T : Tk} {n : Nat} {f : Int} {m : G4} {k : KD} (s1 : Nz n m.1) (s2 : Nz n m.2.1) (s3 : Nz n m.2.2.1) (s4 : Nz n m.2.2.2) (hn : n ≤ 2000) (h : k (gD (dtG m)) T) : sm_determinant [.val (mD f m)] T k := by
  rw [e_determinant, b_determinant]
  walk_at "evn"
  refine w_timesG s1.cz s4.cz (by omega) (by omega) ?_
  walk_at "evn"
  refine w_timesG s2.cz s3.cz (by omega) (by omega) ?_
  walk_at "evn"
  exact w_minusG h
theorem w_is_flag {T : Tk} {f : Int} {k : KD} (hf : f = 0 ∨ f = 1) (h : k (.bl true) T) : sm_is_flag [.val (.int f)] T k := by
  rw [e_is_flag, b_is_flag]
  walk_at "evn"
  refine w_is_whole ?_
  walk_at "evn"
  refine ⟨⟨ok_int, ok_cx⟩, ?_⟩
  rcases hf with rfl | rfl <;> simpa using h
theorem cz_ap {n a : Nat} {f : Int} {q : P3} {u v : Gi} (su : Nz n u) (sv : Nz n v) (hq : Pt a q) : Cz (n + a + 2) ((u * fl f (zG q) + v * rG q).re, (u * fl f (zG q) + v * rG q).im) := by
  have cz : Cz a ((fl f (zG q)).re, (fl f (zG q)).im) := by
    unfold fl
    split
    · exact ⟨hq.s1, hq.s2.neg⟩
    · exact ⟨hq.s1, hq.s2⟩
  have cr : Cz a ((rG q).re, (rG q).im) := ⟨hq.s3, sz_0⟩
  exact ((su.cz.mul cz).add (sv.cz.mul cr)).mono (by omega)
theorem ok_mD {f : Int} {m : G4} : (mD f m).eqOk := ⟨rfl, rfl⟩
/-- a map as the program has it -/
structure Mq (n : Nat) (f : Int) (m : G4) : Prop where
  fl : f = 0 ∨ f = 1
  mp : Mp m
  dt : dtG m ≠ 0
  s1 : Nz n m.1
  s2 : Nz n m.2.1
  s3 : Nz n m.2.2.1
  s4 : Nz n m.2.2.2
theorem Mq.mono {l n : Nat} {f : Int} {m : G4} (h : Mq l f m) (q : l ≤ n) : Mq n f m := ⟨h.fl, h.mp, h.dt, h.s1.mono q, h.s2.mono q, h.s3.mono q, h.s4.mono q⟩
theorem one_ne : (1 : Gi) ≠ 0 := fun z => absurd (congrArg Gi.re z) (by decide)
theorem scl_one (m : G4) : scl 1 m = m := by
  obtain ⟨a, b, c, d⟩ := m
  unfold scl
  simp only [Prod.mk.injEq]
  refine ⟨?_, ?_, ?_, ?_⟩ <;> grind
theorem Mq.fm {n : Nat} {f : Int} {m : G4} (h : Mq n f m) : Fm n m m := ⟨h.mp, ⟨1, one_ne, (scl_one m).symm⟩, h.s1, h.s2, h.s3, h.s4⟩
theorem Fm.mq {n : Nat} {f : Int} {N m : G4} (h : Fm n N m) (hf : f = 0 ∨ f = 1) (d : dtG N ≠ 0) : Mq n f m := by
  obtain ⟨c, c0, e⟩ := h.c
  refine ⟨hf, h.mp, fun z => d ?_, h.s1, h.s2, h.s3, h.s4⟩
  rw [e, dt_scl, z]
  grind
theorem Fm.led {l n : Nat} {f : Int} {N m : G4} {q t : P3} (h : Fm l N m) (hl : Led n f N q t) : Led n f m q t := by
  obtain ⟨c, c0, e⟩ := h.c
  rw [e] at hl
  exact hl.scl c0
/-- along one another -/
theorem Fm.along {l n : Nat} {N N' m m' : G4} {c c' : Gi} (h : Fm l N m) (h' : Fm n N' m') (c0 : c ≠ 0) (c0' : c' ≠ 0) (e : scl c N = scl c' N') : m = m' := by
  obtain ⟨d, d0, k⟩ := h.c
  obtain ⟨d', d0', k'⟩ := h'.c
  rw [k, k'] at e
  have ss : ∀ (a b : Gi) (x : G4), scl a (scl b x) = scl (a * b) x := fun a b x => by
    unfold scl
    simp only [Prod.mk.injEq]
    refine ⟨?_, ?_, ?_, ?_⟩ <;> grind
  rw [ss, ss] at e
  exact mp_uniq h.mp h'.mp (Gi.mul_ne c0 d0) (Gi.mul_ne c0' d0') e

abbrev g1 : G4 := (1, 0, 0, 1)
theorem mp_g1 : Mp g1 := ⟨⟨1, 0, 0, 0, by simp only; grind⟩, by unfold Qf; decide⟩
theorem nz_01 {n : Nat} (h : 1 ≤ n) : Nz n 0 ∧ Nz n 1 := by
  have : (2 : Int) ^ 1 ≤ 2 ^ n := by exact_mod_cast Nat.pow_le_pow_right (n := 2) (by decide) h
  have e : (2 : Int) ^ 1 = 2 := rfl
  constructor
  · unfold Nz; rw [Gi.nm_of_zero]; omega
  · unfold Nz; show (1 : Int) * 1 + 0 * 0 < _; omega
theorem fm_g1 : Fm 1 g1 g1 := ⟨mp_g1, ⟨1, one_ne, (scl_one _).symm⟩, (nz_01 (Nat.le_refl _)).2, (nz_01 (Nat.le_refl _)).1, (nz_01 (Nat.le_refl _)).1, (nz_01 (Nat.le_refl _)).2⟩
theorem Fm.left {l n b : Nat} {f : Int} {m m' x : G4} (hm : Mq n f m) (h : Fm l (Bk f m) m') (h' : Fm b (Pr f m' m) x) : x = g1 := by
  obtain ⟨c, c0, e⟩ := h.c
  have k : scl (c * fl f 1) (Pr f m' m) = scl (fl f (dtG m)) g1 := by
    rw [← pr_scl, scl_one, ← e]
    exact (pr_back hm.fl m).1
  exact h'.along fm_g1 (Gi.mul_ne c0 (fl_ne one_ne)) (fl_ne hm.dt) k
theorem Fm.right {l n b : Nat} {f : Int} {m m' x : G4} (hm : Mq n f m) (h : Fm l (Bk f m) m') (h' : Fm b (Pr f m m') x) : x = g1 := by
  obtain ⟨c, c0, e⟩ := h.c
  have k : scl (1 * fl f c) (Pr f m m') = scl (dtG m) g1 := by
    rw [← pr_scl, scl_one, ← e]
    exact (pr_back hm.fl m).2
  exact h'.along fm_g1 (Gi.mul_ne one_ne (fl_ne c0)) hm.dt k
theorem Led.of_one {l n : Nat} {q t : P3} (hq : Pt l q) (h : Led n 0 g1 q t) : t = q := by
  have e : HG n t (zG q) (rG q) := by
    have := h
    unfold Led at this
    have e1 : apz g1 (fl 0 (zG q)) (rG q) = zG q := by unfold apz fl; rw [if_neg (by decide)]; simp only; grind
    have e2 : apw g1 (fl 0 (zG q)) (rG q) = rG q := by unfold apw fl; simp only; grind
    rw [e1, e2] at this
    exact this
  exact e.uniq (HG.self hq)
/-- there and back -/
theorem Led.back {a b l n c : Nat} {f : Int} {m m' : G4} {q t s : P3} (hm : Mq n f m) (h : Fm l (Bk f m) m') (hm' : dtG m' ≠ 0) (hq : Pt c q) (h1 : Led a f m q t) (h2 : Led b f m' t s) : s = q := by
  have k := Led.two (a := 0) hm' hm.fl hm.fl h1 h2
  have e0 : ((f + f) % 2 : Int) = 0 := by rcases hm.fl with e | e <;> rw [e] <;> rfl
  rw [e0] at k
  obtain ⟨d, d0, e⟩ := h.c
  have k1 : G.scl (d * fl f 1) (Pr f m' m) = G.scl (fl f (dtG m)) g1 := by
    rw [← pr_scl, scl_one, ← e]
    exact (pr_back hm.fl m).1
  have k2 : Led b 0 (G.scl (d * fl f 1) (Pr f m' m)) q s := by
    unfold Led at k ⊢
    rw [(ap_scl _ _ _ _).1, (ap_scl _ _ _ _).2]
    have d1 := Gi.mul_ne d0 (fl_ne (f := f) one_ne)
    refine k.tr (fun ⟨x, y⟩ => k.nz ⟨(Gi.mul_zero' x).resolve_left d1, (Gi.mul_zero' y).resolve_left d1⟩) (by grind)
  rw [k1] at k2
  exact (k2.scl (fl_ne hm.dt)).of_one hq
theorem dt_pr {f : Int} {m n : G4} (h : dtG m ≠ 0) (q : dtG n ≠ 0) : dtG (Pr f m n) ≠ 0 := by
  unfold Pr
  rw [dt_mul, dt_fl]
  exact Gi.mul_ne h (fl_ne q)
theorem dt_bk {f : Int} {m : G4} (h : dtG m ≠ 0) : dtG (Bk f m) ≠ 0 := by
  unfold Bk
  rw [dt_fl, dt_adj]
  exact fl_ne h
theorem nz_fl {n : Nat} {f : Int} {a : Gi} (h : Nz n a) : Nz n (fl f a) := by unfold fl; split; exact h.cj; exact h
structure N4 (n : Nat) (m : G4) : Prop where
  s1 : Nz n m.1
  s2 : Nz n m.2.1
  s3 : Nz n m.2.2.1
  s4 : Nz n m.2.2.2
theorem Mq.n4 {n : Nat} {f : Int} {m : G4} (h : Mq n f m) : N4 n m := ⟨h.s1, h.s2, h.s3, h.s4⟩
theorem n4_bk {n : Nat} {f : Int} {m : G4} (h : N4 n m) : N4 n (Bk f m) := ⟨nz_fl h.s4, nz_fl h.s2.neg, nz_fl h.s3.neg, nz_fl h.s1⟩
theorem n4_pr {l n : Nat} {f : Int} {m m' : G4} (h : N4 l m) (q : N4 n m') : N4 (l + n + 2) (Pr f m m') :=
  ⟨(h.s1.mul (nz_fl q.s1)).add (h.s2.mul (nz_fl q.s3)), (h.s1.mul (nz_fl q.s2)).add (h.s2.mul (nz_fl q.s4)), (h.s3.mul (nz_fl q.s1)).add (h.s4.mul (nz_fl q.s3)), (h.s3.mul (nz_fl q.s2)).add (h.s4.mul (nz_fl q.s4))⟩
theorem flag_add {f g : Int} (hf : f = 0 ∨ f = 1) (hg : g = 0 ∨ g = 1) : (f + g) % 2 = 0 ∨ (f + g) % 2 = 1 := by omega
theorem Mq.bk {n l : Nat} {f : Int} {m m' : G4} (h : Mq n f m) (q : Fm l (Bk f m) m') : Mq l f m' := q.mq h.fl (dt_bk h.dt)
theorem Mq.pr {n l b : Nat} {f g : Int} {m m' x : G4} (h : Mq n f m) (h' : Mq l g m') (q : Fm b (Pr f m m') x) : Mq b ((f + g) % 2) x := q.mq (flag_add h.fl h'.fl) (dt_pr h.dt h'.dt)
theorem lite_gD {n : Nat} {a : Gi} (h : Nz n a) (l : n ≤ 1900) : (gD a).lite := lite_cx h.cz l
theorem lite_mD {n : Nat} {f : Int} {m : G4} (hf : f = 0 ∨ f = 1) (h : N4 n m) (l : n ≤ 1900) : (mD f m).lite :=
  lite_tup (liteL_cons (Sz.lite (n := 1) (by rcases hf with rfl | rfl <;> unfold Sz <;> decide) (by decide)) (liteL_cons (lite_gD h.s1 l) (liteL_cons (lite_gD h.s2 l) (liteL_cons (lite_gD h.s3 l) (liteL_cons (lite_gD h.s4 l) liteL_nil)))))

theorem w_is_map {T : Tk} {n : Nat} {f : Int} {m : G4} {k : KD} (hm : Mq n f m) (hn : n ≤ 2000) (h : k (.bl true) T) : sm_is_map [.val (mD f m)] T k := by
  rw [e_is_map, b_is_map, k_ZERO]
  walk_at "evn"
  refine w_is_flag hm.fl ?_
  walk_at "evn"
  refine w_is_complex ?_
  walk_at "evn"
  refine w_is_complex ?_
  walk_at "evn"
  refine w_is_complex ?_
  walk_at "evn"
  refine w_is_complex ?_
  walk_at "evn"
  rw [if_neg (by decide)]
  refine ⟨⟨ok_pDs [], ok_pDs []⟩, ?_⟩
  refine w_determinant hm.s1 hm.s2 hm.s3 hm.s4 hn ?_
  walk_at "evn"
  refine ⟨⟨ok_cx, ok_cx⟩, ?_⟩
  rw [if_neg (fun z => hm.dt (Gi.eq0.mp z))]
  refine w_form_of (NS := .tup [gD m.1, gD m.2.1, gD m.2.2.1, gD m.2.2.2]) rfl hm.s1 hm.s2 hm.s3 hm.s4 hn (dt_fst hm.dt) fun m' hm' => ?_
  obtain rfl := hm.fm.uniq hm'
  walk_at "evn"
  refine ⟨⟨ok_mD, ok_mD⟩, ?_⟩
  have e : (decide True) = true := rfl
  simpa only [and_self, decide_true] using h
theorem w_check_map {rk : RK} {T : Tk} {n : Nat} {f : Int} {m : G4} {k : KD} (hm : Mq n f m) (hn : n ≤ 2000) (h : k .non T) : se_check_map rk [.val (mD f m)] T k := by
  rw [ex_check_map, b_check_map]
  walk_at "wkn"
  refine w_is_map hm hn ?_
  walk_at "wkn"
  simpa using h
theorem w_led_by {T : Tk} {n a : Nat} {f : Int} {m : G4} {q : P3} {k : KD} (hm : Mq n f m) (hq : Pt a q) (hn : n + a ≤ 3990) (h : ∀ t, Led (2 * (n + a + 2) + 1) f m q t → k (pD t) T) : sm_led_by [.val (mD f m), .val (pD q)] T k := by
  have go : ∀ zf : Gi, zf = fl f (zG q) → (sm_times [.val (gD m.1), .val (gD zf)] T fun d T1 => sm_scaled [.val (gD m.2.1), .val (.int q.2.2)] T1 fun d_1 T1 => sm_plus [.val d, .val d_1] T1 fun d T1 => sm_times [.val (gD m.2.2.1), .val (gD zf)] T1 fun d_2 T1 => sm_scaled [.val (gD m.2.2.2), .val (.int q.2.2)] T1 fun d_3 T1 => sm_plus [.val d_2, .val d_3] T1 fun d_4 T1 => sm_quotient_place [.val d, .val d_4] T1 k) := by
    rintro zf rfl
    have cz : Cz a ((fl f (zG q)).re, (fl f (zG q)).im) := by
      unfold fl
      split
      · exact ⟨hq.s1, hq.s2.neg⟩
      · exact ⟨hq.s1, hq.s2⟩
    have sc : ∀ (b : Gi) (k : KD) (T : Tk), Nz n b → k (gD (b * rG q)) T → sm_scaled [.val (gD b), .val (.int q.2.2)] T k := fun b k T sb hk => by
      refine w_scaled (n := n + a) (sb.cz.mono (by omega)) (hq.s3.mono (by omega)) (by omega) ?_
      have e : gD (b * rG q) = .tup [.int (q.2.2 * b.re), .int (q.2.2 * b.im)] := by
        show D.tup [.int (b.re * q.2.2 - b.im * 0), .int (b.re * 0 + b.im * q.2.2)] = _
        rw [Int.mul_zero, Int.mul_zero, Int.sub_zero, Int.zero_add, Int.mul_comm b.re, Int.mul_comm b.im]
      rw [← e]
      exact hk
    refine w_timesG hm.s1.cz cz (by omega) (by omega) ?_
    refine sc _ _ _ hm.s2 ?_
    refine w_plusG ?_
    refine w_timesG hm.s3.cz cz (by omega) (by omega) ?_
    refine sc _ _ _ hm.s4 ?_
    refine w_plusG ?_
    have nz := led_nz (f := f) hm.dt hq
    refine w_quotient_hp (n := n + a + 2) (z := ((m.1 * fl f (zG q) + m.2.1 * rG q).re, (m.1 * fl f (zG q) + m.2.1 * rG q).im)) (w := ((m.2.2.1 * fl f (zG q) + m.2.2.2 * rG q).re, (m.2.2.1 * fl f (zG q) + m.2.2.2 * rG q).im)) (cz_ap hm.s1 hm.s2 hq) (cz_ap hm.s3 hm.s4 hq) (by omega) (fun ⟨x, y⟩ => nz ⟨Gi.eq0.mp x, Gi.eq0.mp y⟩) fun t ht => h t ht.hg
  rw [e_led_by, b_led_by]
  walk_at "evn"
  refine (Decidable.em (f = 1)).elim (fun c => ?_) (fun c => ?_)
  · rw [if_pos c]
    exact go ⟨q.1, -q.2.1⟩ (by unfold fl; rw [if_pos c]; rfl)
  · rw [if_neg c]
    exact go ⟨q.1, q.2.1⟩ (by unfold fl; rw [if_neg c]; rfl)
theorem w_joined {T : Tk} {n l : Nat} {f g : Int} {m m' : G4} {k : KD} (hm : Mq n f m) (hm' : Mq l g m') (hn : n + l ≤ 1900) (h : ∀ x, Fm (n + l + 2) (Pr f m m') x → k (mD ((f + g) % 2) x) T) : sm_joined [.val (mD f m), .val (mD g m')] T k := by
  have N := n4_pr (f := f) hm.n4 hm'.n4
  have fin := fun (NS : D) (e : NS.it? = some [gD (Pr f m m').1, gD (Pr f m m').2.1, gD (Pr f m m').2.2.1, gD (Pr f m m').2.2.2]) => w_form_of (T := T) (f := (f + g) % 2) (k := k) e N.s1 N.s2 N.s3 N.s4 (by omega) (dt_fst (dt_pr hm.dt hm'.dt)) h
  rw [e_joined, b_joined]
  generalize e1 : dCall 1 sm_turned_over (aCons (dVar 3) (aNil)) = el1
  obtain ⟨a, b, c, d⟩ := m
  obtain ⟨p, q, r, s⟩ := m'
  have A1 := hm.s1
  have A2 := hm.s2
  have A3 := hm.s3
  have A4 := hm.s4
  have B1 := hm'.s1
  have B2 := hm'.s2
  have B3 := hm'.s3
  have B4 := hm'.s4
  simp only at A1 A2 A3 A4 B1 B2 B3 B4
  have tm : ∀ (u v : Gi) (k : KD) (T : Tk), Nz n u → Nz l v → k (gD (u * v)) T → sm_times [.val (gD u), .val (gD v)] T k := fun u v k T hu hv hk => w_timesG hu.cz hv.cz (by omega) (by omega) hk
  rcases hm.fl with rfl | rfl
  · walk_at "evm"
    refine tm _ _ _ _ A1 B1 ?_
    refine tm _ _ _ _ A2 B3 ?_
    refine w_plusG ?_
    refine tm _ _ _ _ A1 B2 ?_
    refine tm _ _ _ _ A2 B4 ?_
    refine w_plusG ?_
    refine tm _ _ _ _ A3 B1 ?_
    refine tm _ _ _ _ A4 B3 ?_
    refine w_plusG ?_
    refine tm _ _ _ _ A3 B2 ?_
    refine tm _ _ _ _ A4 B4 ?_
    refine w_plusG ?_
    exact fin _ rfl
  · walk_at "evm"
    refine lc_map (fi := gD) (fo := fun x => gD x.cj) [p, q, r, s] _ _ (fun x hx => ⟨_, rfl, fun T k hk => ?_⟩) ?_
    · rw [← e1]
      walk_at "evm"
      exact w_turnG hk
    rw [List.nil_append]
    walk_at "evm"
    refine tm _ _ _ _ A1 B1.cj ?_
    refine tm _ _ _ _ A2 B3.cj ?_
    refine w_plusG ?_
    refine tm _ _ _ _ A1 B2.cj ?_
    refine tm _ _ _ _ A2 B4.cj ?_
    refine w_plusG ?_
    refine tm _ _ _ _ A3 B1.cj ?_
    refine tm _ _ _ _ A4 B3.cj ?_
    refine w_plusG ?_
    refine tm _ _ _ _ A3 B2.cj ?_
    refine tm _ _ _ _ A4 B4.cj ?_
    refine w_plusG ?_
    exact fin _ rfl
theorem w_way_back {T : Tk} {n : Nat} {f : Int} {m : G4} {k : KD} (hm : Mq n f m) (hn : n ≤ 1900) (h : ∀ x, Fm n (Bk f m) x → k (mD f x) T) : sm_way_back [.val (mD f m)] T k := by
  have N := n4_bk (f := f) hm.n4
  have fin := fun (NS : D) (e : NS.it? = some [gD (Bk f m).1, gD (Bk f m).2.1, gD (Bk f m).2.2.1, gD (Bk f m).2.2.2]) => w_form_of (T := T) (f := f) (k := k) e N.s1 N.s2 N.s3 N.s4 (by omega) (dt_fst (dt_bk hm.dt)) h
  have sc : ∀ (b : Gi) (k : KD) (T : Tk), Nz n b → k (gD (-b)) T → sm_scaled [.val (gD b), .val (.int (-1))] T k := fun b k T sb hk => by
    refine w_scaled (n := n + 1) (sb.cz.mono (by omega)) ((show Sz 1 (-1) by unfold Sz; decide).mono (by omega)) (by omega) ?_
    have e : gD (-b) = .tup [.int (-1 * b.re), .int (-1 * b.im)] := by
      show D.tup [.int (-b.re), .int (-b.im)] = _
      rw [Int.neg_mul, Int.neg_mul, Int.one_mul, Int.one_mul]
    rw [← e]
    exact hk
  rw [e_way_back, b_way_back]
  generalize e1 : dCall 1 sm_turned_over (aCons (dVar 7) (aNil)) = el1
  rcases hm.fl with rfl | rfl
  · walk_at "evm"
    refine sc _ _ _ hm.s2 ?_
    walk_at "evm"
    refine sc _ _ _ hm.s3 ?_
    walk_at "evm"
    exact fin _ rfl
  · walk_at "evm"
    refine sc _ _ _ hm.s2 ?_
    walk_at "evm"
    refine sc _ _ _ hm.s3 ?_
    walk_at "evm"
    refine lc_map (fi := gD) (fo := fun x => gD x.cj) [m.2.2.2, -m.2.1, -m.2.2.1, m.1] _ _ (fun x hx => ⟨_, rfl, fun T k hk => ?_⟩) ?_
    · rw [← e1]
      walk_at "evm"
      exact w_turnG hk
    rw [List.nil_append]
    walk_at "evm"
    exact fin _ rfl
theorem w__law_timesG {T : Tk} {m n : Nat} {a b : Gi} {k : KD} (ha : Cz m (a.re, a.im)) (hb : Cz n (b.re, b.im)) (hm : m ≤ 100000) (hn : n ≤ 100000) (h : k (gD (a * b)) T) : sm__law_times [.val (gD a), .val (gD b)] T k :=
  w__law_times (ha.mono hm) (hb.mono hn) fun p hp => by subst hp; exact h
theorem w__law_lessG {T : Tk} {a b : Gi} {k : KD} (h : k (gD (a - b)) T) : sm__law_less [.val (gD a), .val (gD b)] T k := w__law_less fun p hp => by subst hp; exact h
theorem w__law_starG {T : Tk} {a : Gi} {k : KD} (h : k (gD a.cj) T) : sm__law_star [.val (gD a)] T k := w__law_star h
theorem w__law_sizeG {T : Tk} {n : Nat} {a : Gi} {k : KD} (ha : Cz n (a.re, a.im)) (hn : n ≤ 100000) (h : k (.int a.nm) T) : sm__law_size [.val (gD a)] T k := w__law_size (ha.mono hn) h
theorem w__law_overG {T : Tk} {n : Nat} {x g : Gi} {k : KD} (s : Nz n (x * g)) (sg : Nz n g) (g0 : g ≠ 0) (hn : n ≤ 2000) (h : k (gD x) T) : sm__law_over [.val (gD (x * g)), .val (gD g)] T k := by
  rw [e__law_over, b__law_over]
  walk_at "evn"
  have p := Gi.nm_pos g0
  refine w__law_sizeG sg.cz (by omega) ?_
  walk_at "evn"
  rw [if_neg (by omega)]
  refine w__law_starG ?_
  walk_at "evn"
  refine w__law_timesG s.cz sg.cj.cz (by omega) (by omega) ?_
  have e1 : (x * g * g.cj).re = x.re * g.nm := by simp only [Gi.mul_re, Gi.mul_im, Gi.cj, Gi.nm]; grind
  have e2 : (x * g * g.cj).im = x.im * g.nm := by simp only [Gi.mul_re, Gi.mul_im, Gi.cj, Gi.nm]; grind
  have e : gD (x * g * g.cj) = .tup [.int (x.re * g.nm), .int (x.im * g.nm)] := by show D.tup [.int (x * g * g.cj).re, .int (x * g * g.cj).im] = _; rw [e1, e2]
  rw [e]
  walk_at "evn"
  refine ⟨p, ?_⟩
  rw [Int.mul_emod_left, Int.mul_emod_left]
  have sn : Sz 9000 g.nm := (sz_nm sg).mono (by omega)
  rw [if_pos rfl]
  refine ⟨p, ?_⟩
  rw [if_pos rfl]
  rw [Int.mul_ediv_cancel _ (by omega), Int.mul_ediv_cancel _ (by omega)]
  exact ⟨sn.divOk (by decide) p, sn.divOk (by decide) p, h⟩
theorem w__law_quarterG {T : Tk} {f : Gi} {k : KD} (f0 : f ≠ 0) (h : ∀ u, u.nm = 1 → Qf (u * f) → k (gD (u * f)) T) : sm__law_quarter [.val (gD f)] T k := by
  rw [e__law_quarter, b__law_quarter]
  walk_at "evn"
  have f0' : ¬(f.re = 0 ∧ f.im = 0) := fun z => f0 (Gi.eq0.mp z)
  have key : ∀ (u : Gi) (x y : Int), u.nm = 1 → (u * f).re = x → (u * f).im = y → 0 < x → 0 ≤ y → k (.tup [.int x, .int y]) T := fun u x y hu ex ey hx hy => by
    subst ex ey
    exact h u hu ⟨hx, hy⟩
  have h1 := key ⟨1, 0⟩ _ _ rfl rfl rfl
  have h2 := key ⟨0, 1⟩ _ _ rfl rfl rfl
  have h3 := key ⟨-1, 0⟩ _ _ rfl rfl rfl
  have h4 := key ⟨0, -1⟩ _ _ rfl rfl rfl
  simp only [Gi.mul_re, Gi.mul_im, Int.one_mul, Int.zero_mul, Int.neg_mul, Int.sub_zero, Int.add_zero, Int.zero_sub, Int.zero_add, Int.neg_neg, Int.sub_neg] at h1 h2 h3 h4
  simp only [Int.zero_sub, Int.neg_neg]
  split
  · rename_i c; exact h1 c.1 c.2
  split
  · rename_i c; exact h2 c.1 c.2
  split
  · rename_i c; exact h3 c.1 c.2
  split
  · rename_i c; exact h4 c.1 c.2
  · exfalso; omega
theorem common_in {N : dEnds} {T : Tk} {A0 A1 A2 : Option SV} {a b : Gi} {n : Nat} (hn : n ≤ 1999)
    (h : ∀ g x4 x5 x6 x7 x8 x9, G2 g a b → Nz n g → N.nx [A0, A1, A2, some (.val (gD g)), x4, x5, x6, x7, x8, x9] T) :
    ∀ (j : Nat) (s : Int) (c d : Gi) (x5 x6 x7 x8 x9 : Option SV), d.nm < 2 ^ j → Nz n c → Nz n d → (∀ g, G2 g c d → G2 g a b) →
    forL (gN 5) (sSeq (sAsg (dCall 1 sm__law_size (aCons (dVar 4) (aNil))) (gN 6)) (sSeq (sIf (dTst (dOp (oF fEq) (dVar 6) (dC (.int 0)))) ((fun k ρ T => k.bk ρ T)) ((fun k ρ T => k.nx ρ T))) (sSeq (sAsg (dCall 2 sm__law_times (aCons (dVar 3) (aCons (dCall 1 sm__law_star (aCons (dVar 4) (aNil))) (aNil)))) (gTL 2 (gsCons (gN 7) (gsCons (gN 8) (gsNil))))) (sSeq (sAsg (dTup (aCons (dOp (oF fDiv) (dOp (oF fAdd) (dOp (oF fMul) (dC (.int 2)) (dVar 7)) (dVar 6)) (dOp (oF fMul) (dC (.int 2)) (dVar 6))) (aCons (dOp (oF fDiv) (dOp (oF fAdd) (dOp (oF fMul) (dC (.int 2)) (dVar 8)) (dVar 6)) (dOp (oF fMul) (dC (.int 2)) (dVar 6))) (aNil)))) (gN 9)) (sPar 3 4 (aCons (dVar 4) (aCons (dCall 2 sm__law_less (aCons (dVar 3) (aCons (dCall 2 sm__law_times (aCons (dVar 9) (aCons (dVar 4) (aNil)))) (aNil)))) (aNil)))))))) N (intsL s j) [A0, A1, A2, some (.val (gD c)), some (.val (gD d)), x5, x6, x7, x8, x9] T
  | 0, s, c, d, x5, x6, x7, x8, x9, hd, nc, nd, tr => by
    have d0 : d = 0 := Gi.nm_zero (by have := d.nm_nn; have e : (2 : Int) ^ 0 = 1 := rfl; omega)
    subst d0
    exact h c _ _ _ _ _ _ (tr c (G2.zero c)) nc
  | j + 1, s, c, d, x5, x6, x7, x8, x9, hd, nc, nd, tr => by
    rw [intsL, forL_c]
    have ih := fun c d x5 x6 x7 x8 x9 => common_in hn h j (s + 1) c d x5 x6 x7 x8 x9
    generalize forL (gN 5) (sSeq (sAsg (dCall 1 sm__law_size (aCons (dVar 4) (aNil))) (gN 6)) (sSeq (sIf (dTst (dOp (oF fEq) (dVar 6) (dC (.int 0)))) ((fun k ρ T => k.bk ρ T)) ((fun k ρ T => k.nx ρ T))) (sSeq (sAsg (dCall 2 sm__law_times (aCons (dVar 3) (aCons (dCall 1 sm__law_star (aCons (dVar 4) (aNil))) (aNil)))) (gTL 2 (gsCons (gN 7) (gsCons (gN 8) (gsNil))))) (sSeq (sAsg (dTup (aCons (dOp (oF fDiv) (dOp (oF fAdd) (dOp (oF fMul) (dC (.int 2)) (dVar 7)) (dVar 6)) (dOp (oF fMul) (dC (.int 2)) (dVar 6))) (aCons (dOp (oF fDiv) (dOp (oF fAdd) (dOp (oF fMul) (dC (.int 2)) (dVar 8)) (dVar 6)) (dOp (oF fMul) (dC (.int 2)) (dVar 6))) (aNil)))) (gN 9)) (sPar 3 4 (aCons (dVar 4) (aCons (dCall 2 sm__law_less (aCons (dVar 3) (aCons (dCall 2 sm__law_times (aCons (dVar 9) (aCons (dVar 4) (aNil)))) (aNil)))) (aNil)))))))) N (intsL (s + 1) j) = F at ih ⊢
    walk_at "evm"
    refine w__law_sizeG nd.cz (by omega) ?_
    walk_at "evm"
    by_cases d0 : d = 0
    · rw [if_pos (by rw [d0]; rfl)]
      subst d0
      exact h c _ _ _ _ _ _ (tr c (G2.zero c)) nc
    have p := Gi.nm_pos d0
    rw [if_neg (by omega)]
    refine w__law_starG ?_
    walk_at "evm"
    refine w__law_timesG nc.cz nd.cj.cz (by omega) (by omega) ?_
    walk_at "evm"
    have hs : Sz 8000 d.nm := (sz_nm nd).mono (by omega)
    have dv := ((show Sz 2 2 by unfold Sz; decide).mul hs)
    refine ⟨lit_mul (by decide), lit_mul (by decide), dv.divOk (by decide) (by omega), lit_mul (by decide), lit_mul (by decide), dv.divOk (by decide) (by omega), ?_⟩
    have lt := nearG_nm (a := c) d0
    have nn := (c - nearG c d * d).nm_nn
    have h2 : Nz n (c - nearG c d * d) := by
      unfold Nz at nd ⊢
      omega
    have nq : Nz (n + 2) (nearG c d) := by
      refine Nz.dvd d0 ?_
      have e : d * nearG c d = c + -(c - nearG c d * d) := by grind
      rw [e]
      exact nc.add h2.neg
    refine w__law_timesG (a := nearG c d) (b := d) nq.cz nd.cz (by omega) (by omega) ?_
    walk_at "evm"
    refine w__law_lessG ?_
    walk_at "evm"
    refine ih _ _ _ _ _ _ _ ?_ nd h2 fun g hg => tr g (G2.step hg)
    have e : (2 : Int) ^ (j + 1) = 2 * 2 ^ j := by rw [Int.pow_succ, Int.mul_comm]
    omega

theorem w__law_common {T : Tk} {n : Nat} {N : G4} {NS : D} {k : KD} (hN : NS.it? = some [gD N.1, gD N.2.1, gD N.2.2.1, gD N.2.2.2]) (s1 : Nz n N.1) (s2 : Nz n N.2.1) (s3 : Nz n N.2.2.1) (s4 : Nz n N.2.2.2) (hn : n ≤ 1999) (h : ∀ g, GD g N → Nz n g → k (gD g) T) : sm__law_common [.val NS] T k := by
  have z0 : Nz n 0 := by unfold Nz; rw [Gi.nm_of_zero]; exact Int.pow_pos (by decide)
  have sm : ∀ d : Gi, Nz n d → d.nm < 2 ^ 2000 := fun d hd => (hd.mono (show n ≤ 2000 by omega))
  rw [e__law_common, b__law_common]
  walk_at "wk"
  rw [hN]
  walk_at "wk"
  refine common_in hn (fun g1 x4 x5 x6 x7 x8 x9 h1 n1 => ?_) _ 0 0 N.1 _ _ _ _ _ (sm _ s1) z0 s1 (fun g hg => hg)
  walk_at "wk"
  refine common_in hn (fun g2 x4 x5 x6 x7 x8 x9 h2 n2 => ?_) _ 0 g1 N.2.1 _ _ _ _ _ (sm _ s2) n1 s2 (fun g hg => hg)
  walk_at "wk"
  refine common_in hn (fun g3 x4 x5 x6 x7 x8 x9 h3 n3 => ?_) _ 0 g2 N.2.2.1 _ _ _ _ _ (sm _ s3) n2 s3 (fun g hg => hg)
  walk_at "wk"
  refine common_in hn (fun g4 x4 x5 x6 x7 x8 x9 h4 n4 => ?_) _ 0 g3 N.2.2.2 _ _ _ _ _ (sm _ s4) n3 s4 (fun g hg => hg)
  walk_at "wk"
  exact h g4 (gd_of h1 h2 h3 h4) n4

theorem lc_nzL' {A0 A1 A2 A3 A5 A6 : Option SV} {K : List D → Tk → Prop} : ∀ (xs : List Gi) (c : Option SV) (acc : List D) (T : Tk), K (acc ++ (nzG xs).map gD) T →
    lcD [A0, A1, A2, A3, c, A5, A6] (cN 4) (dTst (dOp (oF fNe) (dVar 4) (dTup (aCons (dC (.int 0)) (aCons (dC (.int 0)) aNil))))) (dVar 4) K (xs.map gD) acc T
  | [], c, acc, T, h => by
    rw [nzG, List.map_nil, List.append_nil] at h
    exact h
  | x :: xs, c, acc, T, h => by
    show lcK _ _ _ _ _ (D.tup [.int x.re, .int x.im] :: xs.map gD) _ _
    walk_at "wk"
    by_cases q : x = 0
    · refine iteB_p (by rw [q]; rfl) ?_
      rw [nzG, if_pos q] at h
      exact lc_nzL' xs _ _ _ h
    · refine iteB_n (by
        have : ¬(x.re = 0 ∧ x.im = 0) := fun z => q (Gi.eq0.mp z)
        simpa using this) ?_
      rw [nzG, if_neg q, List.map_cons] at h
      walk_at "wk"
      refine lc_nzL' xs _ _ _ ?_
      rw [List.append_assoc]
      exact h
theorem w__law_map {T : Tk} {n : Nat} {f : Int} {N : G4} {NS : D} {k : KD} (hN : NS.it? = some [gD N.1, gD N.2.1, gD N.2.2.1, gD N.2.2.2]) (s1 : Nz n N.1) (s2 : Nz n N.2.1) (s3 : Nz n N.2.2.1) (s4 : Nz n N.2.2.2) (hn : n ≤ 1999) (nz : fst4 N ≠ 0) (h : ∀ m, Fm n N m → k (mD f m) T) : sm__law_map [.val (.int f), .val NS] T k := by
  rw [e__law_map, b__law_map]
  walk_at "wk"
  refine w__law_common hN s1 s2 s3 s4 hn fun g gd ng => ?_
  obtain ⟨N1, N2, N3, N4⟩ := N
  obtain ⟨⟨x1, q1⟩, ⟨x2, q2⟩, ⟨x3, q3⟩, ⟨x4, q4⟩, u, v, w, t, es⟩ := gd
  simp only at q1 q2 q3 q4
  subst q1 q2 q3 q4
  obtain ⟨g0, f0⟩ := fst4_zero (x := (x1, x2, x3, x4)) nz
  have y1 := Nz.dvd (a := x1) g0 (by rw [show g * x1 = x1 * g by grind]; exact s1)
  have y2 := Nz.dvd (a := x2) g0 (by rw [show g * x2 = x2 * g by grind]; exact s2)
  have y3 := Nz.dvd (a := x3) g0 (by rw [show g * x3 = x3 * g by grind]; exact s3)
  have y4 := Nz.dvd (a := x4) g0 (by rw [show g * x4 = x4 * g by grind]; exact s4)
  have nf := fst4_nz (x := (x1, x2, x3, x4)) y1 y2 y3 y4
  obtain ⟨r, er⟩ := nzG_head f0
  simp only at er
  walk_at "wk"
  rw [hN]
  walk_at "wk"
  refine w__law_overG s1 ng g0 (by omega) ?_
  walk_at "wk"
  refine w__law_overG s2 ng g0 (by omega) ?_
  walk_at "wk"
  refine w__law_overG s3 ng g0 (by omega) ?_
  walk_at "wk"
  refine w__law_overG s4 ng g0 (by omega) ?_
  walk_at "wkn"
  refine lc_nzL' [x1, x2, x3, x4] _ _ _ ?_
  rw [er]
  walk_at "wk"
  refine w__law_quarterG f0 fun U un qf => ?_
  have nU : Nz 1 U := by unfold Nz; rw [un]; decide
  have nUf : Nz (1 + n) (U * fst4 (x1, x2, x3, x4)) := nU.mul nf
  walk_at "wk"
  refine w__law_overG (x := U) (g := fst4 (x1, x2, x3, x4)) (n := 1 + n) nUf (nf.mono (by omega)) f0 (by omega) ?_
  have fin := h _ (fm_of' (x := (x1, x2, x3, x4)) (U := U) un (by rw [show fst4 (x1, x2, x3, x4) * U = U * fst4 (x1, x2, x3, x4) by grind]; exact qf) g0 ⟨u, v, w, t, es⟩ s1 s2 s3 s4)
  walk_at "wk"
  refine w__law_timesG y1.cz nU.cz (by omega) (by omega) ?_
  walk_at "wk"
  refine w__law_timesG y2.cz nU.cz (by omega) (by omega) ?_
  walk_at "wk"
  refine w__law_timesG y3.cz nU.cz (by omega) (by omega) ?_
  walk_at "wk"
  refine w__law_timesG y4.cz nU.cz (by omega) (by omega) ?_
  walk_at "wk"
  exact fin

theorem nz_of {n : Nat} {a b : Int} (h : Sz n a) (q : Sz n b) : Nz (2 * n + 2) ⟨a, b⟩ := by
  have h1 : Sz (n + n + 1) (a * a + b * b) := ((h.mul h).add (q.mul q)).mono (by omega)
  have nn := Gi.nm_nn ⟨a, b⟩
  unfold Nz
  unfold Sz at h1
  have e : (⟨a, b⟩ : Gi).nm = a * a + b * b := rfl
  rw [e] at nn ⊢
  have l : (2 : Int) ^ (n + n + 1) ≤ 2 ^ (2 * n + 2) := by exact_mod_cast Nat.pow_le_pow_right (n := 2) (by decide) (by omega)
  have h2 : ((a * a + b * b).natAbs : Int) < 2 ^ (n + n + 1) := by exact_mod_cast h1
  omega
theorem dec_gi {a : Gi} : (decide (a.re = 0) && decide (a.im = 0)) = decide (a = 0) := by
  by_cases q : a = 0
  · rw [q]; rfl
  · have : ¬(a.re = 0 ∧ a.im = 0) := fun z => q (Gi.eq0.mp z)
    rw [decide_eq_false q]
    simpa using this
theorem w__law_little {T : Tk} {k : KD} (hT : TkOk T) (h : ∀ (a : Gi) T', Nz 82 a → TkOk T' → k (gD a) T') : sm__law_little [.tank] T k := by
  rw [e__law_little, b__law_little]
  walk_at "wk"
  refine w__law_small hT fun a T1 ha hT1 => ?_
  walk_at "wk"
  refine w__law_small hT1 fun b T2 hb hT2 => ?_
  walk_at "wk"
  exact h ⟨a, b⟩ T2 (nz_of ha hb) hT2
theorem w__law_det {T : Tk} {n : Nat} {N : G4} {k : KD} (h4 : N4 n N) (hn : n ≤ 50000) (h : k (gD (dtG N)) T) : sm__law_det [.val (.lst [gD N.1, gD N.2.1, gD N.2.2.1, gD N.2.2.2])] T k := by
  rw [e__law_det, b__law_det]
  walk_at "wk"
  refine w__law_timesG h4.s1.cz h4.s4.cz (by omega) (by omega) ?_
  walk_at "wk"
  refine w__law_timesG h4.s2.cz h4.s3.cz (by omega) (by omega) ?_
  walk_at "wk"
  exact w__law_lessG h
theorem four_in {N : dEnds} {way : Int} (ret : ∀ (M : G4) (i : Option SV) (T : Tk), TkOk T → N4 82 M → dtG M ≠ 0 → N.rt (.lst [gD M.1, gD M.2.1, gD M.2.2.1, gD M.2.2.2]) T)
    (nx : ∀ i c T, TkOk T → N.nx [some .tank, some (.val (.int way)), i, c] T) :
    ∀ (j : Nat) (s : Int) (i c : Option SV) (T : Tk), TkOk T → forL (gN 2) (sSeq (sOwn 3 (aCons (dCall 1 sm__law_little (aTank 0 (aNil))) (aCons (dCall 1 sm__law_little (aTank 0 (aNil))) (aCons (dCall 1 sm__law_little (aTank 0 (aNil))) (aCons (dCall 1 sm__law_little (aTank 0 (aNil))) (aNil)))))) (sSeq (sIf (dTst (dOp (oF fEq) (dVar 1) (dC (.int 0)))) (sAsg (dTup (aCons (dTup (aCons (dC (.int 1)) (aCons (dC (.int 0)) (aNil)))) (aCons (dTup (aCons (dC (.int 0)) (aCons (dC (.int 0)) (aNil)))) (aCons (dTup (aCons (dC (.int 1)) (aCons (dC (.int 0)) (aNil)))) (aNil))))) (gTL 3 (gsCons (gOs 3 (dC (.int 0))) (gsCons (gOs 3 (dC (.int 2))) (gsCons (gOs 3 (dC (.int 3))) (gsNil)))))) ((fun k ρ T => k.nx ρ T))) (sSeq (sIf (dTst (dOp (oF fEq) (dVar 1) (dC (.int 1)))) (sAsg (dTup (aCons (dTup (aCons (dC (.int 0)) (aCons (dC (.int 0)) (aNil)))) (aCons (dTup (aCons (dC (.int 0)) (aCons (dC (.int 0)) (aNil)))) (aNil)))) (gTL 2 (gsCons (gOs 3 (dC (.int 1))) (gsCons (gOs 3 (dC (.int 2))) (gsNil))))) ((fun k ρ T => k.nx ρ T))) (sSeq (sIf (dTst (dOp (oF fEq) (dVar 1) (dC (.int 2)))) (sAsg (dTup (aCons (dTup (aCons (dC (.int 0)) (aCons (dC (.int 0)) (aNil)))) (aCons (dTup (aCons (dC (.int 0)) (aCons (dC (.int 0)) (aNil)))) (aNil)))) (gTL 2 (gsCons (gOs 3 (dC (.int 0))) (gsCons (gOs 3 (dC (.int 3))) (gsNil))))) ((fun k ρ T => k.nx ρ T))) (sIf (dViewT 3 (dTst (dOp (oF fNe) (dCall 1 sm__law_det (aCons (dVar 3) (aNil))) (dTup (aCons (dC (.int 0)) (aCons (dC (.int 0)) (aNil))))))) (sFrq 3 (sRet (dVar 3))) ((fun k ρ T => k.nx ρ T))))))) N (intsL s j) [some .tank, some (.val (.int way)), i, c] T
  | 0, s, i, c, T, hT => nx i c T hT
  | j + 1, s, i, c, T, hT => by
    have ih := four_in ret nx j (s + 1)
    rw [intsL, forL_c]
    walk_at "wk"
    refine w__law_little hT fun a T1 ha hT1 => ?_
    walk_at "wk"
    refine w__law_little hT1 fun b T2 hb hT2 => ?_
    walk_at "wk"
    refine w__law_little hT2 fun c T3 hc hT3 => ?_
    walk_at "wk"
    refine w__law_little hT3 fun d T4 hd hT4 => ?_
    walk_at "wk"
    have z0 := nz_01 (n := 82) (by decide)
    have tail : ∀ (M : G4) (x y : Prop), N4 82 M → (dtG M ≠ 0 → x) → y → iteB (decide ((dtG M).re = 0) && decide ((dtG M).im = 0)) y x := by
      intro M x y hM hx hy
      rw [dec_gi]
      by_cases d0 : dtG M = 0
      · exact iteB_p (by simp [d0]) hy
      · exact iteB_n (by simp [d0]) (hx d0)
    by_cases w0 : way = 0
    · subst w0
      walk_at "wk"
      refine w__law_det (N := (1, b, 0, 1)) ⟨z0.2, hb, z0.1, z0.2⟩ (by decide) ?_
      walk_at "wk"
      refine ⟨hT4.noL, tail (1, b, 0, 1) _ _ ⟨z0.2, hb, z0.1, z0.2⟩ (fun d0 => ?_) ?_⟩
      · walk_at "wk"
        exact ret (1, b, 0, 1) (some (.val (.int s))) T4 hT4 ⟨z0.2, hb, z0.1, z0.2⟩ d0
      · exact ih _ _ _ hT4
    refine iteB_n (by simpa using w0) ?_
    by_cases w1 : way = 1
    · subst w1
      walk_at "wk"
      refine w__law_det (N := (a, 0, 0, d)) ⟨ha, z0.1, z0.1, hd⟩ (by decide) ?_
      walk_at "wk"
      refine ⟨hT4.noL, tail (a, 0, 0, d) _ _ ⟨ha, z0.1, z0.1, hd⟩ (fun d0 => ?_) ?_⟩
      · walk_at "wk"
        exact ret (a, 0, 0, d) (some (.val (.int s))) T4 hT4 ⟨ha, z0.1, z0.1, hd⟩ d0
      · exact ih _ _ _ hT4
    walk_at "wk"
    refine iteB_n (by simpa using w1) ?_
    by_cases w2 : way = 2
    · subst w2
      walk_at "wk"
      refine w__law_det (N := (0, b, c, 0)) ⟨z0.1, hb, hc, z0.1⟩ (by decide) ?_
      walk_at "wk"
      refine ⟨hT4.noL, tail (0, b, c, 0) _ _ ⟨z0.1, hb, hc, z0.1⟩ (fun d0 => ?_) ?_⟩
      · walk_at "wk"
        exact ret (0, b, c, 0) (some (.val (.int s))) T4 hT4 ⟨z0.1, hb, hc, z0.1⟩ d0
      · exact ih _ _ _ hT4
    walk_at "wk"
    refine iteB_n (by simpa using w2) ?_
    walk_at "wk"
    refine w__law_det (N := (a, b, c, d)) ⟨ha, hb, hc, hd⟩ (by decide) ?_
    walk_at "wk"
    refine ⟨hT4.noL, tail (a, b, c, d) _ _ ⟨ha, hb, hc, hd⟩ (fun d0 => ?_) ?_⟩
    · walk_at "wk"
      exact ret (a, b, c, d) (some (.val (.int s))) T4 hT4 ⟨ha, hb, hc, hd⟩ d0
    · exact ih _ _ _ hT4
theorem w__law_four {T : Tk} {k : KD} (hT : TkOk T) (h : ∀ (N : G4) T', N4 82 N → dtG N ≠ 0 → TkOk T' → k (.lst [gD N.1, gD N.2.1, gD N.2.2.1, gD N.2.2.2]) T') : sm__law_four [.tank] T k := by
  rw [e__law_four, b__law_four]
  walk_at "wk"
  refine w__law_draw hT (by decide) (by decide) fun way T1 h0 h1 hT1 => ?_
  walk_at "wkn"
  refine four_in (fun M i T hT hM d => h M T hM d hT) (fun i c T hT => ?_) 3 0 none none T1 hT1
  walk_at "wk"
  have z0 := nz_01 (n := 82) (by decide)
  refine h (1, ⟨2, 1⟩, 0, 1) T ⟨z0.2, ?_, z0.1, z0.2⟩ ?_ hT
  · unfold Nz; decide
  · exact fun z => absurd (congrArg Gi.re z) (by decide)
theorem w__law_drawn_map {T : Tk} {k : KD} (hT : TkOk T) (h : ∀ (f : Int) (m : G4) T', Mq 82 f m → TkOk T' → k (mD f m) T') : sm__law_drawn_map [.tank] T k := by
  rw [e__law_drawn_map, b__law_drawn_map]
  walk_at "wk"
  refine w__law_draw hT (by decide) (by decide) fun f T1 h0 h1 hT1 => ?_
  walk_at "wk"
  refine w__law_four hT1 fun N T2 hN d0 hT2 => ?_
  walk_at "wk"
  refine w__law_map rfl hN.s1 hN.s2 hN.s3 hN.s4 (by decide) (dt_fst d0) fun m hm => ?_
  exact h f m T2 (hm.mq (by omega) d0) hT2

theorem Led.pt {n : Nat} {f : Int} {m : G4} {q t : P3} (h : Led n f m q t) : Pt n t := HG.pt h
theorem Mq.lite {n : Nat} {f : Int} {m : G4} (h : Mq n f m) (l : n ≤ 1900) : (mD f m).lite := lite_mD h.fl h.n4 l
theorem dt_g1 : dtG g1 ≠ 0 := fun z => absurd (congrArg Gi.re z) (by decide)
theorem Mq.g1 : Mq 1 0 L2.G.g1 := fm_g1.mq (.inl rfl) dt_g1

theorem hp_ex {n : Nat} {z w : Cx2} (hz : Cz n z) (hw : Cz n w) (nz : ¬((z.1 = 0 ∧ z.2 = 0) ∧ (w.1 = 0 ∧ w.2 = 0))) : ∃ q, HP (2 * n + 1) q z w := by
  by_cases w0 : w.1 = 0 ∧ w.2 = 0
  · refine ⟨(1, 0, 0), pt_far (by omega), ?_, ?_, nz⟩
    · rw [w0.1, w0.2]; simp
    · rw [w0.1, w0.2]; simp
  · have np := cnrm_pos w0
    have nr := rne' np
    have sp := hz.mul hw.conj
    have sn := hw.nrm
    refine ⟨_, plq_hp (plq_low (n := 2 * n + 1) (x := (cmul z (cconj w)).1) (y := (cmul z (cconj w)).2) (z := cnrm w) (u := ((cmul z (cconj w)).1 : Rat) / (cnrm w : Rat)) (v := ((cmul z (cconj w)).2 : Rat) / (cnrm w : Rat)) np (sp.1.mono (by omega)) (sp.2.mono (by omega)) (sn.mono (by omega)) ?_ ?_) w0 ?_ ?_⟩
    · generalize (cnrm w : Rat) = N at *
      grind
    · generalize (cnrm w : Rat) = N at *
      grind
    · unfold cnrm at nr ⊢
      unfold cmul cconj
      push_cast at nr ⊢
      generalize (w.1 : Rat) = a at *
      generalize (w.2 : Rat) = b at *
      generalize (z.1 : Rat) = c at *
      generalize (z.2 : Rat) = d at *
      clear sp sn hz hw
      grind
    · unfold cnrm at nr ⊢
      unfold cmul cconj
      push_cast at nr ⊢
      generalize (w.1 : Rat) = a at *
      generalize (w.2 : Rat) = b at *
      generalize (z.1 : Rat) = c at *
      generalize (z.2 : Rat) = d at *
      clear sp sn hz hw
      grind

/-! rows led back by maps -/
def mulR (g : Int) (r : R4) : R4 := (g * r.1, g * r.2.1, g * r.2.2.1, g * r.2.2.2)
def addR (x y : R4) : R4 := (x.1 + y.1, x.2.1 + y.2.1, x.2.2.1 + y.2.2.1, x.2.2.2 + y.2.2.2)
def be (r : R4) : Gi := ⟨r.2.1, -r.2.2.1⟩
def valG (r : R4) (z w : Gi) : Int := r.1 * z.nm + (be r * (z * w.cj)).re + r.2.2.2 * w.nm
def RB0 (m : G4) (r : R4) : R4 :=
  (r.1 * m.1.nm + (be r * (m.1 * m.2.2.1.cj)).re + r.2.2.2 * m.2.2.1.nm,
   2 * r.1 * (m.1 * m.2.1.cj).re + (be r * (m.1 * m.2.2.2.cj)).re + ((be r).cj * (m.2.1.cj * m.2.2.1)).re + 2 * r.2.2.2 * (m.2.2.1 * m.2.2.2.cj).re,
   -(2 * r.1 * (m.1 * m.2.1.cj).im + (be r * (m.1 * m.2.2.2.cj)).im + ((be r).cj * (m.2.1.cj * m.2.2.1)).im + 2 * r.2.2.2 * (m.2.2.1 * m.2.2.2.cj).im),
   r.1 * m.2.1.nm + (be r * (m.2.1 * m.2.2.2.cj)).re + r.2.2.2 * m.2.2.2.nm)
def flR (f : Int) (r : R4) : R4 := (r.1, r.2.1, if f = 1 then -r.2.2.1 else r.2.2.1, r.2.2.2)
def RB (f : Int) (m : G4) (r : R4) : R4 := flR f (RB0 m r)
theorem val_G (r : R4) (q : P3) : val4 r q = valG r (zG q) (rG q) := by
  unfold val4 valG be zG rG Gi.nm Gi.cj
  simp only [Gi.mul_re, Gi.mul_im]
  grind
theorem rb0_val (m : G4) (r : R4) (z w : Gi) : valG (RB0 m r) z w = valG r (apz m z w) (apw m z w) := by
  obtain ⟨⟨a, a'⟩, ⟨b, b'⟩, ⟨c, c'⟩, ⟨d, d'⟩⟩ := m
  obtain ⟨q, l, n, k⟩ := r
  obtain ⟨z, z'⟩ := z
  obtain ⟨w, w'⟩ := w
  unfold valG RB0 be apz apw Gi.nm Gi.cj
  simp only [Gi.mul_re, Gi.mul_im, Gi.add_re, Gi.add_im]
  grind
theorem flR_val (f : Int) (r : R4) (z w : Gi) : valG (flR f r) z w = valG r (fl f z) (fl f w) := by
  unfold valG flR fl be
  split
  · unfold Gi.nm Gi.cj
    simp only [Gi.mul_re, Gi.mul_im]
    grind
  · rfl
theorem rb_val (f : Int) (m : G4) (r : R4) (z w : Gi) : valG (RB f m r) z w = valG r (apz m (fl f z) (fl f w)) (apw m (fl f z) (fl f w)) := by
  unfold RB
  rw [flR_val, rb0_val]
theorem val_ext {r r' : R4} (h : ∀ z w, valG r z w = valG r' z w) : r = r' := by
  have h1 := h ⟨1, 0⟩ ⟨0, 0⟩
  have h2 := h ⟨0, 0⟩ ⟨1, 0⟩
  have h3 := h ⟨1, 0⟩ ⟨1, 0⟩
  have h4 := h ⟨0, 1⟩ ⟨1, 0⟩
  obtain ⟨q, l, n, k⟩ := r
  obtain ⟨q', l', n', k'⟩ := r'
  unfold valG be Gi.nm Gi.cj at h1 h2 h3 h4
  simp only [Gi.mul_re, Gi.mul_im] at h1 h2 h3 h4
  have e1 : q = q' := by omega
  have e2 : k = k' := by omega
  have e3 : l = l' := by omega
  have e4 : n = n' := by omega
  rw [e1, e2, e3, e4]
theorem mulR_val (g : Int) (r : R4) (z w : Gi) : valG (mulR g r) z w = g * valG r z w := by
  unfold valG mulR be Gi.nm Gi.cj
  simp only [Gi.mul_re, Gi.mul_im]
  grind
theorem addR_val (x y : R4) (z w : Gi) : valG (addR x y) z w = valG x z w + valG y z w := by
  unfold valG addR be Gi.nm Gi.cj
  simp only [Gi.mul_re, Gi.mul_im]
  grind
theorem val_scl (r : R4) (c z w : Gi) : valG r (c * z) (c * w) = c.nm * valG r z w := by
  unfold valG be Gi.nm Gi.cj
  simp only [Gi.mul_re, Gi.mul_im]
  grind
theorem fl_mul (f : Int) (a b : Gi) : fl f (a * b) = fl f a * fl f b := by
  unfold fl; split
  · exact Gi.cj_mul a b
  · rfl
theorem fl_add (f : Int) (a b : Gi) : fl f (a + b) = fl f a + fl f b := by
  unfold fl; split
  · exact Gi.cj_add a b
  · rfl
theorem fl_nm (f : Int) (a : Gi) : (fl f a).nm = a.nm := by
  unfold fl; split
  · exact Gi.nm_cj a
  · rfl
theorem fl_fl {f g : Int} (hf : f = 0 ∨ f = 1) (hg : g = 0 ∨ g = 1) (a : Gi) : fl g (fl f a) = fl ((f + g) % 2) a := by
  rcases hf with rfl | rfl <;> rcases hg with rfl | rfl <;> simp [fl, Gi.cj_cj]
theorem rb_mul (f g : Int) (m : G4) (r : R4) : RB f m (mulR g r) = mulR g (RB f m r) := val_ext fun z w => by rw [rb_val, mulR_val, mulR_val, rb_val]
theorem rb_add (f : Int) (m : G4) (x y : R4) : RB f m (addR x y) = addR (RB f m x) (RB f m y) := val_ext fun z w => by rw [rb_val, addR_val, addR_val, rb_val, rb_val]
theorem rb_scl (f : Int) (c : Gi) (m : G4) (r : R4) : RB f (scl c m) r = mulR c.nm (RB f m r) := val_ext fun z w => by
  rw [rb_val, mulR_val, rb_val, (ap_scl c m _ _).1, (ap_scl c m _ _).2, val_scl]
theorem rb_comp {f g : Int} (hf : f = 0 ∨ f = 1) (hg : g = 0 ∨ g = 1) (m n : G4) (r : R4) : RB f m (RB g n r) = RB ((f + g) % 2) (Pr g n m) r := val_ext fun z w => by
  rw [rb_val, rb_val, rb_val]
  have e1 : fl g (apz m (fl f z) (fl f w)) = apz (flm g m) (fl ((f + g) % 2) z) (fl ((f + g) % 2) w) := by
    unfold apz flm
    rw [fl_add, fl_mul, fl_mul, fl_fl hf hg, fl_fl hf hg]
  have e2 : fl g (apw m (fl f z) (fl f w)) = apw (flm g m) (fl ((f + g) % 2) z) (fl ((f + g) % 2) w) := by
    unfold apw flm
    rw [fl_add, fl_mul, fl_mul, fl_fl hf hg, fl_fl hf hg]
  rw [e1, e2]
  unfold Pr
  rw [(ap_mul n (flm g m) _ _).1, (ap_mul n (flm g m) _ _).2]
theorem rb_one (r : R4) : RB 0 (1, 0, 0, 1) r = r := val_ext fun z w => by
  rw [rb_val]
  have e1 : apz (1, 0, 0, 1) (fl 0 z) (fl 0 w) = z := by unfold apz fl; simp only; grind
  have e2 : apw (1, 0, 0, 1) (fl 0 z) (fl 0 w) = w := by unfold apw fl; simp only; grind
  rw [e1, e2]
/-- back and there again -/
theorem rb_back {f : Int} (hf : f = 0 ∨ f = 1) (m : G4) (r : R4) : RB f m (RB f (Bk f m) r) = mulR (dtG m).nm r := by
  have e : (f + f) % 2 = 0 := by omega
  rw [rb_comp hf hf, e, (pr_back hf m).1, rb_scl, rb_one, fl_nm]
theorem bnd_mulR (g : Int) (r : R4) : bnd (mulR g r) = g * g * bnd r := by unfold bnd mulR; simp only; grind
theorem jn_mulR (g h : Int) (x y : R4) : jn (mulR g x) (mulR h y) = g * h * jn x y := by unfold jn mulR; simp only; grind
theorem bnd_addR (x y : R4) : bnd (addR x y) = bnd x + bnd y + 2 * jn x y := by unfold bnd jn addR; simp only; grind
theorem bnd_flR (f : Int) (r : R4) : bnd (flR f r) = bnd r := by unfold bnd flR; simp only; split <;> grind
def io (n : Int) : Gi := ⟨n, 0⟩
theorem io_inj {a b : Int} (h : io a = io b) : a = b := congrArg Gi.re h
theorem bnd_io (r : R4) : io (bnd r) = be r * (be r).cj - io (2 * r.1) * io (2 * r.2.2.2) := by
  refine Gi.ext' ?_ ?_
  · unfold bnd io be Gi.cj; simp only [Gi.mul_re, Gi.sub_re]; grind
  · unfold io be Gi.cj; simp only [Gi.mul_im, Gi.sub_im]; grind
theorem nm_io (a : Gi) : io a.nm = a * a.cj := by
  refine Gi.ext' ?_ ?_
  · unfold io Gi.nm Gi.cj; simp only [Gi.mul_re]; grind
  · unfold io Gi.cj; simp only [Gi.mul_im]; grind
theorem io_mul (a b : Int) : io (a * b) = io a * io b := Gi.ext' (by unfold io; simp only [Gi.mul_re]; grind) (by unfold io; simp only [Gi.mul_im]; grind)
theorem bnd_rb (f : Int) (m : G4) (r : R4) : bnd (RB f m r) = (dtG m).nm * bnd r := by
  unfold RB
  rw [bnd_flR]
  apply io_inj
  rw [io_mul, nm_io, bnd_io, bnd_io]
  obtain ⟨a, b, c, d⟩ := m
  have q1 : io (2 * (RB0 (a, b, c, d) r).1) = (io (2 * r.1) * a + (be r).cj * c) * a.cj + (be r * a + io (2 * r.2.2.2) * c) * c.cj := by
    obtain ⟨q, l, n, k⟩ := r
    refine Gi.ext' ?_ ?_
    · unfold RB0 io be Gi.nm Gi.cj; simp only [Gi.mul_re, Gi.mul_im, Gi.add_re, Gi.add_im]; grind
    · unfold RB0 io be Gi.cj; simp only [Gi.mul_re, Gi.mul_im, Gi.add_re, Gi.add_im]; grind
  have q2 : io (2 * (RB0 (a, b, c, d) r).2.2.2) = (io (2 * r.1) * b + (be r).cj * d) * b.cj + (be r * b + io (2 * r.2.2.2) * d) * d.cj := by
    obtain ⟨q, l, n, k⟩ := r
    refine Gi.ext' ?_ ?_
    · unfold RB0 io be Gi.nm Gi.cj; simp only [Gi.mul_re, Gi.mul_im, Gi.add_re, Gi.add_im]; grind
    · unfold RB0 io be Gi.cj; simp only [Gi.mul_re, Gi.mul_im, Gi.add_re, Gi.add_im]; grind
  have q3 : be (RB0 (a, b, c, d) r) = (io (2 * r.1) * a + (be r).cj * c) * b.cj + (be r * a + io (2 * r.2.2.2) * c) * d.cj := by
    obtain ⟨q, l, n, k⟩ := r
    refine Gi.ext' ?_ ?_
    · unfold RB0 io be Gi.cj; simp only [Gi.mul_re, Gi.mul_im, Gi.add_re, Gi.add_im]; grind
    · unfold RB0 io be Gi.cj; simp only [Gi.mul_re, Gi.mul_im, Gi.add_re, Gi.add_im]; grind
  have q4 : (be (RB0 (a, b, c, d) r)).cj = (io (2 * r.1) * b + (be r).cj * d) * a.cj + (be r * b + io (2 * r.2.2.2) * d) * c.cj := by
    obtain ⟨q, l, n, k⟩ := r
    refine Gi.ext' ?_ ?_
    · unfold RB0 io be Gi.cj; simp only [Gi.mul_re, Gi.mul_im, Gi.add_re, Gi.add_im]; grind
    · unfold RB0 io be Gi.cj; simp only [Gi.mul_re, Gi.mul_im, Gi.add_re, Gi.add_im]; grind
  have q5 : (dtG (a, b, c, d)).cj = a.cj * d.cj - b.cj * c.cj := by unfold dtG; rw [Gi.cj_sub, Gi.cj_mul, Gi.cj_mul]
  rw [q1, q2, q4, q3, q5]
  unfold dtG
  generalize io (2 * r.1) = Q
  generalize io (2 * r.2.2.2) = K
  generalize (be r).cj = B'
  generalize be r = B
  generalize a.cj = A'
  generalize b.cj = B2
  generalize c.cj = C'
  generalize d.cj = D'
  simp only
  grind
theorem jn_rb (f : Int) (m : G4) (x y : R4) : jn (RB f m x) (RB f m y) = (dtG m).nm * jn x y := by
  have h := bnd_rb f m (addR x y)
  rw [rb_add, bnd_addR, bnd_addR, bnd_rb, bnd_rb] at h
  generalize (dtG m).nm = N at *
  generalize jn x y = J at *
  generalize jn (RB f m x) (RB f m y) = J' at *
  generalize bnd x = u at *
  generalize bnd y = v at *
  have : 2 * J' = 2 * (N * J) := by grind
  omega
theorem hg_val {n : Nat} {q : P3} {z w : Gi} (h : HG n q z w) (r : R4) : ((zG q).nm + (rG q).nm) * valG r z w = (z.nm + w.nm) * val4 r q := by
  rw [val_G]
  have e := h.e
  have h1 := val_scl r (rG q) z w
  have h2 := val_scl r w (zG q) (rG q)
  have h3 := val_scl r (zG q) z w
  have h4 := val_scl r z (zG q) (rG q)
  have x1 : valG r (rG q * z) (rG q * w) = valG r (w * zG q) (w * rG q) := by
    rw [show w * zG q = rG q * z by rw [← e]; grind, show w * rG q = rG q * w by grind]
  have x2 : valG r (zG q * z) (zG q * w) = valG r (z * zG q) (z * rG q) := by
    rw [show zG q * w = z * rG q by rw [e]; grind, show zG q * z = z * zG q by grind]
  rw [h1, h2] at x1
  rw [h3, h4] at x2
  rw [Int.add_mul, Int.add_mul]
  omega

/-- the round r is led to t -/
structure Lr (n : Nat) (f : Int) (m : G4) (r t : R4) : Prop where
  rd : Rd n t
  c : ∃ g h : Int, g ≠ 0 ∧ h ≠ 0 ∧ mulR h (RB f (Bk f m) r) = mulR g t
theorem mulR_mulR (a b : Int) (r : R4) : mulR a (mulR b r) = mulR (a * b) r := by unfold mulR; simp only [Int.mul_assoc]
theorem mulR_comm (a b : Int) (r : R4) : mulR a (mulR b r) = mulR b (mulR a r) := by rw [mulR_mulR, mulR_mulR, Int.mul_comm]
theorem rd_mulR {m n : Nat} {r r' : R4} (h : Rd m r) (h' : Rd n r') {g g' : Int} (g0 : g ≠ 0) (g0' : g' ≠ 0) (e : mulR g r = mulR g' r') : r = r' := by
  unfold mulR at e
  simp only [Prod.mk.injEq] at e
  exact rd_uniq h h' g0 g0' e.1 e.2.1 e.2.2.1 e.2.2.2
theorem Lr.uniq {l n : Nat} {f : Int} {m : G4} {r t t' : R4} (h : Lr l f m r t) (h' : Lr n f m r t') : t = t' := by
  obtain ⟨g, a, g0, a0, e⟩ := h.c
  obtain ⟨g', a', g0', a0', e'⟩ := h'.c
  refine rd_mulR h.rd h'.rd (g := a' * g) (g' := a * g') (Int.mul_ne_zero a0' g0) (Int.mul_ne_zero a0 g0') ?_
  rw [← mulR_mulR, ← e, mulR_comm, e', mulR_mulR]
theorem Lr.back {l n b p : Nat} {f : Int} {m m' : G4} {r t s : R4} (hm : Mq p f m) (hr : Rd b r) (hb : Fm l (Bk f m) m') (h : Lr n f m r t) {q : Nat} (h' : Lr q f m' t s) : s = r := by
  obtain ⟨c, c0, ec⟩ := hb.c
  obtain ⟨g, a, g0, a0, e⟩ := h.c
  obtain ⟨g', a', g0', a0', e'⟩ := h'.c
  have np := Gi.nm_pos c0
  have nd := Gi.nm_pos hm.dt
  have e1 : m = scl (fl f c) (Bk f m') := by rw [← bk_scl, ← ec, bk_bk hm.fl]
  have e2 := congrArg (RB f m) e
  rw [rb_mul, rb_mul, rb_back hm.fl] at e2
  have e3 : RB f m t = mulR c.nm (RB f (Bk f m') t) := by
    have := rb_scl f (fl f c) (Bk f m') t
    rw [← e1, fl_nm] at this
    exact this
  rw [e3] at e2
  refine rd_mulR h'.rd hr (g := g * c.nm * g') (g' := a' * a * (dtG m).nm) (Int.mul_ne_zero (Int.mul_ne_zero g0 (by omega)) g0') (Int.mul_ne_zero (Int.mul_ne_zero a0' a0) (by omega)) ?_
  rw [← mulR_mulR, ← e', mulR_comm, ← mulR_mulR g, ← e2, mulR_mulR, mulR_mulR, Int.mul_assoc]
theorem Lr.two {l n b p q : Nat} {f g : Int} {m1 m2 x : G4} {r s t : R4} (h1 : Mq p f m1) (h2 : Mq q g m2) (hx : Fm b (Pr f m1 m2) x) (hs : Lr l g m2 r s) (ht : Lr n f m1 s t) : Lr n ((f + g) % 2) x r t := by
  obtain ⟨c, c0, ec⟩ := hx.c
  obtain ⟨u, a, u0, a0, e⟩ := hs.c
  obtain ⟨u', a', u0', a0', e'⟩ := ht.c
  have np := Gi.nm_pos c0
  refine ⟨ht.rd, u * u', a * a' * c.nm, Int.mul_ne_zero u0 u0', Int.mul_ne_zero (Int.mul_ne_zero a0 a0') (by omega), ?_⟩
  have e1 : RB ((f + g) % 2) (Bk ((f + g) % 2) (Pr f m1 m2)) r = mulR c.nm (RB ((f + g) % 2) (Bk ((f + g) % 2) x) r) := by rw [ec, bk_scl, rb_scl, fl_nm]
  rw [← mulR_mulR, ← e1, bk_pr h1.fl h2.fl, ← rb_comp h1.fl h2.fl, Int.mul_comm a a', ← mulR_mulR, ← rb_mul, e, rb_mul, mulR_comm, e', mulR_mulR]
theorem ne_zero_of {a b c d : Int} (hb : b ≠ 0) (hd : d ≠ 0) (e : b * a = d * c) : a = 0 ↔ c = 0 := by
  constructor
  · rintro rfl
    rw [Int.mul_zero] at e
    exact (Int.mul_eq_zero.mp e.symm).resolve_left hd
  · rintro rfl
    rw [Int.mul_zero] at e
    exact (Int.mul_eq_zero.mp e).resolve_left hb
theorem hg_zero {n : Nat} {q : P3} {z w : Gi} (h : HG n q z w) (r : R4) : valG r z w = 0 ↔ val4 r q = 0 := by
  have s := (HG.self h.pt).nz
  have p1 : (zG q).nm + (rG q).nm ≠ 0 := by
    have := (zG q).nm_nn
    have := (rG q).nm_nn
    intro e
    exact s ⟨Gi.nm_zero (by omega), Gi.nm_zero (by omega)⟩
  have p2 : z.nm + w.nm ≠ 0 := by
    have := z.nm_nn
    have := w.nm_nn
    intro e
    exact h.nz ⟨Gi.nm_zero (by omega), Gi.nm_zero (by omega)⟩
  exact ne_zero_of p1 p2 (hg_val h r)
theorem fl_io {f : Int} (a : Int) : fl f ⟨a, 0⟩ = ⟨a, 0⟩ := by
  unfold fl; split
  · exact Gi.ext' rfl (by show -(0 : Int) = 0; rfl)
  · rfl
theorem val_10 (r : R4) : valG r ⟨1, 0⟩ ⟨0, 0⟩ = r.1 := by
  unfold valG be Gi.nm Gi.cj; simp only [Gi.mul_re, Gi.mul_im]; grind
/-- led to a line just if the place that goes to the far one lies on it -/
theorem Lr.line {l n b : Nat} {f : Int} {m m' : G4} {r t : R4} {q : P3} (hb : Fm l (Bk f m) m') (h : Lr n f m r t) (hq : Led b f m' (1, 0, 0) q) : t.1 = 0 ↔ val4 r q = 0 := by
  obtain ⟨c, c0, ec⟩ := hb.c
  obtain ⟨g, a, g0, a0, e⟩ := h.c
  have np := Gi.nm_pos c0
  rw [← hg_zero hq r]
  rw [ec, rb_scl, mulR_mulR] at e
  have e1 : valG (mulR (a * c.nm) (RB f m' r)) ⟨1, 0⟩ ⟨0, 0⟩ = valG (mulR g t) ⟨1, 0⟩ ⟨0, 0⟩ := by rw [e]
  rw [mulR_val, mulR_val, rb_val, val_10] at e1
  have e2 : fl f (zG (1, 0, 0)) = ⟨1, 0⟩ := fl_io 1
  have e3 : rG (1, 0, 0) = ⟨0, 0⟩ := rfl
  rw [fl_io, fl_io] at e1
  rw [e2, e3]
  exact ne_zero_of g0 (Int.mul_ne_zero a0 (by omega)) e1.symm
theorem Lr.on {l n b : Nat} {f : Int} {m : G4} {r t : R4} {p q : P3} (hm : Mq l f m) (h : Lr n f m r t) (hq : Led b f m p q) : val4 r p = 0 ↔ val4 t q = 0 := by
  obtain ⟨g, a, g0, a0, e⟩ := h.c
  have nd := Gi.nm_pos hm.dt
  rw [← hg_zero hq t]
  have e2 := congrArg (RB f m) e
  rw [rb_mul, rb_mul, rb_back hm.fl, mulR_mulR] at e2
  have e1 := congrArg (fun x => valG x (zG p) (rG p)) e2
  simp only [mulR_val, rb_val] at e1
  have e3 : fl f (rG p) = rG p := fl_io p.2.2
  rw [e3, ← val_G] at e1
  exact ne_zero_of (Int.mul_ne_zero a0 (by omega)) g0 e1
theorem Lr.bnd {n l : Nat} {f : Int} {m : G4} {r t : R4} (hm : Mq l f m) (h : Lr n f m r t) : ∃ g a : Int, g ≠ 0 ∧ a ≠ 0 ∧ mulR a (RB f (Bk f m) r) = mulR g t ∧ a * a * ((dtG m).nm * L2.G.bnd r) = g * g * L2.G.bnd t := by
  obtain ⟨g, a, g0, a0, e⟩ := h.c
  refine ⟨g, a, g0, a0, e, ?_⟩
  have e1 := congrArg L2.G.bnd e
  rw [bnd_mulR, bnd_mulR, bnd_rb] at e1
  have e2 : (dtG (Bk f m)).nm = (dtG m).nm := by unfold Bk; rw [dt_fl, fl_nm, dt_adj]
  rw [e2] at e1
  exact e1
theorem Lr.jn {n n' l : Nat} {f : Int} {m : G4} {r t r' t' : R4} (hm : Mq l f m) (h : Lr n f m r t) (h' : Lr n' f m r' t') : ∃ x y z w : Int, 0 < x ∧ 0 < y ∧ 0 < z ∧ 0 < w ∧ x * (L2.G.bnd r) = y * L2.G.bnd t ∧ z * (L2.G.bnd r') = w * L2.G.bnd t' ∧ (x * z) * (L2.G.jn r r' * L2.G.jn r r') = (y * w) * (L2.G.jn t t' * L2.G.jn t t') := by
  obtain ⟨g, a, g0, a0, e, e1⟩ := h.bnd hm
  obtain ⟨g', a', g0', a0', e', e1'⟩ := h'.bnd hm
  have nd := Gi.nm_pos hm.dt
  have e2 : (dtG (Bk f m)).nm = (dtG m).nm := by unfold Bk; rw [dt_fl, fl_nm, dt_adj]
  have e3 := jn_mulR a a' (RB f (Bk f m) r) (RB f (Bk f m) r')
  rw [e, e', jn_mulR, jn_rb, e2] at e3
  refine ⟨a * a * (dtG m).nm, g * g, a' * a' * (dtG m).nm, g' * g', Int.mul_pos (imul_self_pos a0) nd, imul_self_pos g0, Int.mul_pos (imul_self_pos a0') nd, imul_self_pos g0', ?_, ?_, ?_⟩
  · rw [← e1, Int.mul_assoc]
  · rw [← e1', Int.mul_assoc]
  · generalize (dtG m).nm = N at *
    generalize L2.G.jn r r' = J at *
    generalize L2.G.jn t t' = J' at *
    have e4 : (g * g' * J') * (g * g' * J') = (a * a' * (N * J)) * (a * a' * (N * J)) := by rw [e3]
    clear e e' e1 e1' e3
    grind

abbrev rD (r : R4) : D := .tup [.int r.1, .int r.2.1, .int r.2.2.1, .int r.2.2.2]
theorem cz_be {n : Nat} {r : R4} (h : S4 n r) : Cz n ((be r).re, (be r).im) := ⟨h.s2, h.s3.neg⟩
def bt (r : R4) : Gi := ⟨r.2.1, r.2.2.1⟩
theorem cz_bt {n : Nat} {r : R4} (h : S4 n r) : Cz n ((bt r).re, (bt r).im) := ⟨h.s2, h.s3⟩
def scG (c : Int) (a : Gi) : Gi := ⟨c * a.re, c * a.im⟩
theorem Cz.mulG {m n : Nat} {a b : Gi} (h : Cz m (a.re, a.im)) (q : Cz n (b.re, b.im)) : Cz (m + n + 1) ((a * b).re, (a * b).im) := h.mul q
theorem Cz.addG {m n : Nat} {a b : Gi} (h : Cz m (a.re, a.im)) (q : Cz n (b.re, b.im)) : Cz (m + n + 1) ((a + b).re, (a + b).im) := ((h.mono (Nat.le_add_right m n)).add (q.mono (Nat.le_add_left n m)))
theorem Cz.cjG {n : Nat} {a : Gi} (h : Cz n (a.re, a.im)) : Cz n (a.cj.re, a.cj.im) := h.conj
theorem Cz.scG {m n : Nat} {c : Int} {a : Gi} (hc : Sz m c) (h : Cz n (a.re, a.im)) : Cz (m + n) ((scG c a).re, (scG c a).im) := ⟨hc.mul h.1, hc.mul h.2⟩
theorem Cz.reG {n : Nat} {a : Gi} (h : Cz n (a.re, a.im)) : Sz n a.re := h.1
theorem Cz.imG {n : Nat} {a : Gi} (h : Cz n (a.re, a.im)) : Sz n a.im := h.2
theorem sz2x : Sz 2 2 := by unfold Sz; decide
theorem szm2x : Sz 2 (-2) := by unfold Sz; decide
local macro_rules | `(tactic| walk_at "gz") => `(tactic| (repeat' (first | assumption | exact sz2x | exact szm2x | apply Cz.mulG | apply Cz.addG | apply Cz.cjG | apply Cz.scG | apply Cz.reG | apply Cz.imG | apply Sz.mul | apply Sz.neg)))
local macro_rules | `(tactic| walk_at "mk") => `(tactic| (apply Sz.mulOk; (repeat' (first | assumption | exact sz2x | exact szm2x | apply Cz.reG | apply Cz.imG | apply Cz.mulG | apply Cz.addG | apply Cz.cjG | apply Cz.scG | apply Sz.mul | apply Sz.add | apply Sz.sub | apply Sz.neg)); all_goals omega))
theorem w_inner {T : Tk} {n : Nat} {a b : Gi} {k : KD} (ha : Cz n (a.re, a.im)) (hb : Cz n (b.re, b.im)) (hn : n ≤ 100000) (h : k (.int (a * b.cj).re) T) : sm_inner [.val (gD a), .val (gD b)] T k := by
  rw [e_inner, b_inner]
  walk_at "wk"
  refine ⟨ha.1.mulOk hb.1 (by omega) (by omega), ha.2.mulOk hb.2 (by omega) (by omega), ?_⟩
  have e : (a * b.cj).re = a.re * b.re + a.im * b.im := by simp only [Gi.mul_re, Gi.cj]; grind
  rw [← e]
  exact h
theorem w_scaledG {T : Tk} {m n : Nat} {a : Gi} {c : Int} {k : KD} (ha : Cz n (a.re, a.im)) (hc : Sz m c) (hn : n ≤ 50000) (hm : m ≤ 50000) (h : k (gD (scG c a)) T) : sm_scaled [.val (gD a), .val (.int c)] T k := w_scaled (n := n + m) (ha.mono (Nat.le_add_right n m)) (hc.mono (Nat.le_add_left m n)) (by omega) h
local macro_rules | `(tactic| walk_at "st") => `(tactic| ((first | with_reducible refine w_turnG ?_ | with_reducible refine w_timesG (by walk_at "gz") (by walk_at "gz") (by omega) (by omega) ?_ | with_reducible refine w_inner (by assumption) (by assumption) (by omega) ?_ | with_reducible refine w_scaledG (by walk_at "gz") (by walk_at "gz") (by omega) (by omega) ?_ | with_reducible refine w_plusG ?_ | with_reducible refine And.intro (by walk_at "mk") ?_); walk_at "wk"))
theorem w_led_row {T : Tk} {n l : Nat} {f : Int} {m : G4} {r : R4} {k : KD} (hm : Mq n f m) (hr : S4 l r) (hn : 2 * n + l ≤ 20000) (h : k (rD (mulR 2 (RB f (Bk f m) r))) T) : sm_led_row [.val (mD f m), .val (rD r)] T k := by
  have A1 := hm.s1.cz
  have A2 := hm.s2.cz
  have A3 := hm.s3.cz
  have A4 := hm.s4.cz
  have q1 := hr.s1
  have q4 := hr.s4
  have B1 := cz_be hr
  have B2 := cz_bt hr
  obtain ⟨a, b, c, d⟩ := m
  simp only at A1 A2 A3 A4
  rw [e_led_row, b_led_row]
  rcases hm.fl with rfl | rfl
  · walk_at "wk"
    rw [show D.tup [.int r.2.1, .int r.2.2.1] = gD (bt r) from rfl]
    repeat (walk_at "st")
    have e : D.tup [.int (2 * r.1 * (d * d.cj).re + 2 * r.2.2.2 * (c * c.cj).re - 2 * (d.cj * (bt r) * c).re), .int (2 * (scG (-(2 * r.1)) (d.cj * b) + scG (-(2 * r.2.2.2)) (c.cj * a) + d.cj * (bt r) * a + c.cj * (bt r).cj * b).re), .int (2 * (scG (-(2 * r.1)) (d.cj * b) + scG (-(2 * r.2.2.2)) (c.cj * a) + d.cj * (bt r) * a + c.cj * (bt r).cj * b).im), .int (2 * r.1 * (b * b.cj).re + 2 * r.2.2.2 * (a * a.cj).re - 2 * (b.cj * (bt r) * a).re)] = rD (mulR 2 (RB 0 (Bk 0 (a, b, c, d)) r)) := by
      obtain ⟨q, l, n, k⟩ := r
      obtain ⟨a, a'⟩ := a
      obtain ⟨b, b'⟩ := b
      obtain ⟨c, c'⟩ := c
      obtain ⟨d, d'⟩ := d
      refine congrArg D.tup ?_
      simp only [List.cons.injEq, D.int.injEq, and_true]
      clear h hm A1 A2 A3 A4 B1 B2 q1 q4 hr hn
      refine ⟨?_, ?_, ?_, ?_⟩
      all_goals
        simp only [mulR, RB, flR, RB0, Bk, flm, adjm, fl, bt, be, scG, Gi.nm, Gi.cj, Gi.mul_re, Gi.mul_im, Gi.add_re, Gi.add_im, Gi.neg_re, Gi.neg_im, Int.reduceEq, if_true, if_false, reduceIte]
        grind
    rw [← e] at h
    exact h
  · walk_at "wk"
    rw [show D.tup [.int r.2.1, .int (-r.2.2.1)] = gD (be r) from rfl]
    repeat (walk_at "st")
    have e : D.tup [.int (2 * r.1 * (d * d.cj).re + 2 * r.2.2.2 * (c * c.cj).re - 2 * (d.cj * (be r) * c).re), .int (2 * (scG (-(2 * r.1)) (d.cj * b) + scG (-(2 * r.2.2.2)) (c.cj * a) + d.cj * (be r) * a + c.cj * (be r).cj * b).re), .int (2 * (scG (-(2 * r.1)) (d.cj * b) + scG (-(2 * r.2.2.2)) (c.cj * a) + d.cj * (be r) * a + c.cj * (be r).cj * b).im), .int (2 * r.1 * (b * b.cj).re + 2 * r.2.2.2 * (a * a.cj).re - 2 * (b.cj * (be r) * a).re)] = rD (mulR 2 (RB 1 (Bk 1 (a, b, c, d)) r)) := by
      obtain ⟨q, l, n, k⟩ := r
      obtain ⟨a, a'⟩ := a
      obtain ⟨b, b'⟩ := b
      obtain ⟨c, c'⟩ := c
      obtain ⟨d, d'⟩ := d
      refine congrArg D.tup ?_
      simp only [List.cons.injEq, D.int.injEq, and_true]
      clear h hm A1 A2 A3 A4 B1 B2 q1 q4 hr hn
      refine ⟨?_, ?_, ?_, ?_⟩
      all_goals
        simp only [mulR, RB, flR, RB0, Bk, flm, adjm, fl, bt, be, scG, Gi.nm, Gi.cj, Gi.mul_re, Gi.mul_im, Gi.add_re, Gi.add_im, Gi.neg_re, Gi.neg_im, Int.reduceEq, if_true, if_false, reduceIte]
        grind
    rw [← e] at h
    exact h
theorem sz_rb {n l : Nat} {f : Int} {m : G4} {r : R4} (hm : N4 n m) (hr : S4 l r) : S4 (2 * n + l + 8) (RB f m r) := by
  obtain ⟨a, b, c, d⟩ := m
  have A1 := hm.s1.cz
  have A2 := hm.s2.cz
  have A3 := hm.s3.cz
  have A4 := hm.s4.cz
  have N1 := sz_nm hm.s1
  have N2 := sz_nm hm.s2
  have N3 := sz_nm hm.s3
  have N4 := sz_nm hm.s4
  have B := cz_be hr
  simp only at A1 A2 A3 A4 N1 N2 N3 N4
  refine ⟨?_, ?_, ?_, ?_⟩
  · exact (((hr.s1.mul N1).add (B.mulG (A1.mulG A3.cjG)).1).add (hr.s4.mul N3)).mono (by omega)
  · exact (((((sz2x.mul hr.s1).mul (A1.mulG A2.cjG).1).add (B.mulG (A1.mulG A4.cjG)).1).add (B.cjG.mulG (A2.cjG.mulG A3)).1).add ((sz2x.mul hr.s4).mul (A3.mulG A4.cjG).1)).mono (by omega)
  · have := (((((sz2x.mul hr.s1).mul (A1.mulG A2.cjG).2).add (B.mulG (A1.mulG A4.cjG)).2).add (B.cjG.mulG (A2.cjG.mulG A3)).2).add ((sz2x.mul hr.s4).mul (A3.mulG A4.cjG).2)).mono (show _ ≤ 2 * n + l + 8 by omega)
    show Sz _ (if f = 1 then - -_ else -_)
    split
    · rw [Int.neg_neg]; exact this
    · exact this.neg
  · exact (((hr.s1.mul N2).add (B.mulG (A2.mulG A4.cjG)).1).add (hr.s4.mul N4)).mono (by omega)
theorem bnd_pos {n : Nat} {f : Int} {m : G4} {r : R4} (d : dtG m ≠ 0) (hr : Rd n r) : 0 < bnd (RB f (Bk f m) r) := by
  rw [bnd_rb]
  exact Int.mul_pos (Gi.nm_pos (dt_bk d)) hr.bend
theorem S4.two {n : Nat} {r : R4} (h : S4 n r) : S4 (n + 2) (mulR 2 r) := ⟨(sz2x.mul h.s1).mono (by omega), (sz2x.mul h.s2).mono (by omega), (sz2x.mul h.s3).mono (by omega), (sz2x.mul h.s4).mono (by omega)⟩
theorem mulR_of {g : Int} {r t : R4} (e1 : r.1 = g * t.1) (e2 : r.2.1 = g * t.2.1) (e3 : r.2.2.1 = g * t.2.2.1) (e4 : r.2.2.2 = g * t.2.2.2) : r = mulR g t := by
  unfold mulR
  rw [← e1, ← e2, ← e3, ← e4]
theorem Rd.lite {n : Nat} {r : R4} (h : Rd n r) (l : n ≤ 1900) : (rD r).lite := lite_rw h.toRw l
theorem w_led_round {rk : RK} {T : Tk} {n l : Nat} {f : Int} {m : G4} {r : R4} {k : KD} (hm : Mq n f m) (hr : Rd l r) (hn : 2 * n + l ≤ 1900) (h : ∀ t, Lr (2 * n + l + 10) f m r t → k (rD t) T) : se_led_round rk [.val (mD f m), .val (rD r)] T k := by
  rw [ex_led_round, b_led_round]
  walk_at "wk"
  refine w_check_map hm (by omega) ?_
  walk_at "wk"
  refine w_check_round hr (by omega) ?_
  walk_at "wk"
  refine w_led_row hm hr.s4' (by omega) ?_
  walk_at "wk"
  have s := (sz_rb (f := f) (n4_bk (f := f) hm.n4) hr.s4').two
  refine w_first_above (n := 2 * n + l + 10) ?_ s.s1 s.s2 s.s3 s.s4 (by omega) fun t g g0 e1 e2 e3 e4 ht => h t ⟨ht, g, 2, g0, by decide, mulR_of e1 e2 e3 e4⟩
  have e := bnd_mulR 2 (RB f (Bk f m) r)
  have p := bnd_pos (f := f) hm.dt hr
  have : 0 < bnd (mulR 2 (RB f (Bk f m) r)) := by omega
  exact this
def mirR (x y : R4) : R4 := (bnd x * y.1 - 2 * jn x y * x.1, bnd x * y.2.1 - 2 * jn x y * x.2.1, bnd x * y.2.2.1 - 2 * jn x y * x.2.2.1, bnd x * y.2.2.2 - 2 * jn x y * x.2.2.2)
theorem lite_non' : D.non.lite := by simp only [D.lite]
def rowR (x y : R4) : R4 := (jn x y * x.1 - bnd x * y.1, jn x y * x.2.1 - bnd x * y.2.1, jn x y * x.2.2.1 - bnd x * y.2.2.1, jn x y * x.2.2.2 - bnd x * y.2.2.2)
/-- the place of a row that has it alone -/
def PlR (n : Nat) (q : P3) (R : R4) : Prop := (R.1 = 0 ∧ q = (1, 0, 0)) ∨ (R.1 ≠ 0 ∧ PlQ n q (-(R.2.1 : Rat) / (2 * (R.1 : Rat))) (-(R.2.2.1 : Rat) / (2 * (R.1 : Rat))))
theorem PlR.uniq {m n : Nat} {q q' : P3} {R : R4} (h : PlR m q R) (h' : PlR n q' R) : q = q' := by
  rcases h with ⟨a, b⟩ | ⟨a, b⟩ <;> rcases h' with ⟨c, d⟩ | ⟨c, d⟩
  · rw [b, d]
  · exact absurd a c
  · exact absurd c a
  · exact b.uniq d
theorem cast_ne {a : Int} (h : a ≠ 0) : (a : Rat) ≠ 0 := fun e => h (cast_inj (b := 0) e)
theorem PlR.scale {n : Nat} {q : P3} {R R' : R4} (h : PlR n q R) {c d : Int} (c0 : c ≠ 0) (d0 : d ≠ 0) (e1 : c * R.1 = d * R'.1) (e2 : c * R.2.1 = d * R'.2.1) (e3 : c * R.2.2.1 = d * R'.2.2.1) : PlR n q R' := by
  rcases h with ⟨a, b⟩ | ⟨a, b⟩
  · left
    rw [a, Int.mul_zero] at e1
    exact ⟨(Int.mul_eq_zero.mp e1.symm).resolve_left d0, b⟩
  · right
    have r0 : R'.1 ≠ 0 := fun z => by
      rw [z, Int.mul_zero] at e1
      exact (Int.mul_eq_zero.mp e1).elim c0 a
    refine ⟨r0, ?_⟩
    have k1 : (c : Rat) * (R.1 : Rat) = d * (R'.1 : Rat) := by rw [← Rat.intCast_mul, e1, Rat.intCast_mul]
    have k2 : (c : Rat) * (R.2.1 : Rat) = d * (R'.2.1 : Rat) := by rw [← Rat.intCast_mul, e2, Rat.intCast_mul]
    have k3 : (c : Rat) * (R.2.2.1 : Rat) = d * (R'.2.2.1 : Rat) := by rw [← Rat.intCast_mul, e3, Rat.intCast_mul]
    have z1 := cast_ne a
    have z2 := cast_ne r0
    have z3 := cast_ne c0
    have z4 := cast_ne d0
    have u : -(R.2.1 : Rat) / (2 * (R.1 : Rat)) = -(R'.2.1 : Rat) / (2 * (R'.1 : Rat)) := by
      generalize (R.1 : Rat) = a1 at *
      generalize (R.2.1 : Rat) = a2 at *
      generalize (R'.1 : Rat) = b1 at *
      generalize (R'.2.1 : Rat) = b2 at *
      generalize (c : Rat) = cc at *
      generalize (d : Rat) = dd at *
      grind
    have v : -(R.2.2.1 : Rat) / (2 * (R.1 : Rat)) = -(R'.2.2.1 : Rat) / (2 * (R'.1 : Rat)) := by
      generalize (R.1 : Rat) = a1 at *
      generalize (R.2.2.1 : Rat) = a2 at *
      generalize (R'.1 : Rat) = b1 at *
      generalize (R'.2.2.1 : Rat) = b2 at *
      generalize (c : Rat) = cc at *
      generalize (d : Rat) = dd at *
      grind
    rw [← u, ← v]
    exact b
def TPl (n : Nat) (x y : R4) (d : D) : Prop := ((x = y ∨ jn x y * jn x y ≠ bnd x * bnd y) ∧ d = .non) ∨ (x ≠ y ∧ jn x y * jn x y = bnd x * bnd y ∧ ∃ q, d = pD q ∧ PlR n q (rowR x y))
theorem TPl.uniq {m n : Nat} {x y : R4} {d d' : D} (h : TPl m x y d) (h' : TPl n x y d') : d = d' := by
  rcases h with ⟨a, b⟩ | ⟨a1, a2, q, b, c⟩ <;> rcases h' with ⟨a', b'⟩ | ⟨a1', a2', q', b', c'⟩
  · rw [b, b']
  · rcases a with a | a
    · exact absurd a a1'
    · exact absurd a2' a
  · rcases a' with a' | a'
    · exact absurd a' a1
    · exact absurd a2 a'
  · rw [b, b', c.uniq c']
theorem TPl.symm {n m : Nat} {x y : R4} {d : D} (rx : Rw m x) (ry : Rw m y) (h : TPl n x y d) : TPl n y x d := by
  rcases h with ⟨a, b⟩ | ⟨a1, a2, q, b, c⟩
  · left
    refine ⟨?_, b⟩
    rcases a with a | a
    · exact .inl a.symm
    · right
      rw [jn_comm y x, Int.mul_comm (bnd y)]
      exact a
  · right
    refine ⟨fun e => a1 e.symm, by rw [jn_comm y x, Int.mul_comm (bnd y)]; exact a2, q, b, ?_⟩
    have j0 : jn x y ≠ 0 := fun z => by
      rw [z] at a2
      have := Int.mul_pos rx.bend ry.bend
      omega
    have b0 : bnd x ≠ 0 := by have := rx.bend; omega
    have key : ∀ s t : Int, -jn x y * (jn x y * s - bnd x * t) = bnd x * (jn y x * t - bnd y * s) := fun s t => by
      rw [jn_comm y x]
      have : -jn x y * (jn x y * s - bnd x * t) = -(jn x y * jn x y) * s + jn x y * bnd x * t := by grind
      rw [this, a2]
      grind
    exact c.scale (c := -jn x y) (d := bnd x) (by omega) b0 (key _ _) (key _ _) (key _ _)
theorem TPl.lite {n : Nat} {x y : R4} {d : D} (h : TPl n x y d) (hn : n ≤ 1900) : d.lite := by
  rcases h with ⟨_, b⟩ | ⟨_, _, q, b, c⟩
  · rw [b]; exact lite_non'
  · rw [b]
    rcases c with ⟨_, e⟩ | ⟨_, e⟩
    · rw [e]; exact lite_pt (pt_far (n := 1) (by decide)) (by decide)
    · exact lite_pl e hn
theorem PlQ.cj {n : Nat} {q : P3} {u v : Rat} (h : PlQ n q u v) : PlQ n (q.1, 0 - q.2.1, q.2.2) u (-v) := by
  refine ⟨h.pos, ?_, h.s1, by simp only [Int.zero_sub]; exact h.s2.neg, h.s3, h.e1, ?_⟩
  · have := h.one
    have e : ∀ g a b c : Int, gcdL g [a, 0 - b, c] = gcdL g [a, b, c] := fun g a b c => by
      unfold gcdL gcdL gcdL gcdL
      have : iGcd (iGcd g a) (0 - b) = iGcd (iGcd g a) b := by
        show ((Nat.gcd _ _ : Nat) : Int) = ((Nat.gcd _ _ : Nat) : Int)
        rw [Int.zero_sub, Int.natAbs_neg]
      rw [this]
    rw [e]
    exact this
  · simp only
    push_cast
    rw [h.e2]
    generalize (q.2.2 : Rat) = R
    grind

/-! mirrors as maps -/
def MM (r : R4) : G4 := (⟨-r.2.1, -r.2.2.1⟩, ⟨-(2 * r.2.2.2), 0⟩, ⟨2 * r.1, 0⟩, ⟨r.2.1, -r.2.2.1⟩)
theorem mm_dt (r : R4) : dtG (MM r) = io (-bnd r) := by
  unfold dtG MM io bnd
  refine Gi.ext' ?_ ?_
  · simp only [Gi.mul_re, Gi.sub_re]; grind
  · simp only [Gi.mul_im, Gi.sub_im]; grind
theorem io_ne {a : Int} (h : a ≠ 0) : io a ≠ 0 := fun z => h (congrArg Gi.re z)
theorem mm_nz {n : Nat} {r : R4} (h : Rw n r) : dtG (MM r) ≠ 0 := by
  rw [mm_dt]
  exact io_ne (by have := h.bend; omega)
theorem g4_ext {x y : G4} (h1 : x.1.re = y.1.re) (h2 : x.1.im = y.1.im) (h3 : x.2.1.re = y.2.1.re) (h4 : x.2.1.im = y.2.1.im) (h5 : x.2.2.1.re = y.2.2.1.re) (h6 : x.2.2.1.im = y.2.2.1.im) (h7 : x.2.2.2.re = y.2.2.2.re) (h8 : x.2.2.2.im = y.2.2.2.im) : x = y := by
  obtain ⟨a, b, c, d⟩ := x
  obtain ⟨a', b', c', d'⟩ := y
  simp only at h1 h2 h3 h4 h5 h6 h7 h8
  rw [Gi.ext' h1 h2, Gi.ext' h3 h4, Gi.ext' h5 h6, Gi.ext' h7 h8]
theorem mm_bk (r : R4) : Bk 1 (MM r) = scl (io (-1)) (MM r) := by
  obtain ⟨q, l, n, k⟩ := r
  refine g4_ext ?_ ?_ ?_ ?_ ?_ ?_ ?_ ?_
  all_goals
    simp only [Bk, adjm, flm, fl, MM, scl, io, Gi.cj, Gi.mul_re, Gi.mul_im, Gi.neg_re, Gi.neg_im, if_true]
    grind
theorem mm_rb (x y : R4) : RB 1 (MM x) y = mirR x y := by
  obtain ⟨q, l, n, k⟩ := x
  obtain ⟨q', l', n', k'⟩ := y
  unfold mirR RB flR RB0 MM be bnd jn Gi.nm Gi.cj
  simp only [Gi.mul_re, Gi.mul_im, if_true, Prod.mk.injEq]
  refine ⟨?_, ?_, ?_, ?_⟩
  all_goals grind
/-- the image of a row in a round -/
structure Lm (n : Nat) (x y t : R4) : Prop where
  rd : Rd n t
  c : ∃ g h : Int, g ≠ 0 ∧ h ≠ 0 ∧ mulR h (mirR x y) = mulR g t
theorem Lm.uniq {l n : Nat} {x y t t' : R4} (h : Lm l x y t) (h' : Lm n x y t') : t = t' := by
  obtain ⟨g, a, g0, a0, e⟩ := h.c
  obtain ⟨g', a', g0', a0', e'⟩ := h'.c
  refine rd_mulR h.rd h'.rd (g := a' * g) (g' := a * g') (Int.mul_ne_zero a0' g0) (Int.mul_ne_zero a0 g0') ?_
  rw [← mulR_mulR, ← e, mulR_comm, e', mulR_mulR]
theorem Lr.lm {l n : Nat} {x y t : R4} {m' : G4} (hm : Fm l (MM x) m') (h : Lr n 1 m' y t) : Lm n x y t := by
  obtain ⟨c, c0, e⟩ := hm.c
  obtain ⟨g, a, g0, a0, e1⟩ := h.c
  have np := Gi.nm_pos c0
  refine ⟨h.rd, c.nm * g, a, Int.mul_ne_zero (by omega) g0, a0, ?_⟩
  have e2 : mirR x y = mulR c.nm (RB 1 (Bk 1 m') y) := by
    have e3 : RB 1 (Bk 1 (MM x)) y = mirR x y := by
      rw [mm_bk, rb_scl, mm_rb]
      show mulR 1 _ = _
      unfold mulR; simp only [Int.one_mul]
    rw [← e3, e, bk_scl, rb_scl, fl_nm]
  rw [e2, mulR_comm, e1, mulR_mulR]
/-! a map is settled by three places -/
theorem quad3 {a b c z1 w1 z2 w2 z3 w3 : Gi} (d12 : z1 * w2 - z2 * w1 ≠ 0) (d13 : z1 * w3 - z3 * w1 ≠ 0) (d23 : z2 * w3 - z3 * w2 ≠ 0) (h1 : a * z1 * z1 + b * z1 * w1 + c * w1 * w1 = 0) (h2 : a * z2 * z2 + b * z2 * w2 + c * w2 * w2 = 0) (h3 : a * z3 * z3 + b * z3 * w3 + c * w3 * w3 = 0) : a = 0 ∧ b = 0 ∧ c = 0 := by
  have B0 : 2 * a * z1 * z2 + b * (z1 * w2 + z2 * w1) + 2 * c * w1 * w2 = 0 := by
    have k : (z1 * w3 - z3 * w1) * ((z2 * w3 - z3 * w2) * (2 * a * z1 * z2 + b * (z1 * w2 + z2 * w1) + 2 * c * w1 * w2)) = 0 := by
      have e : (z1 * w3 - z3 * w1) * ((z2 * w3 - z3 * w2) * (2 * a * z1 * z2 + b * (z1 * w2 + z2 * w1) + 2 * c * w1 * w2)) = (z2 * w3 - z3 * w2) * (z2 * w3 - z3 * w2) * (a * z1 * z1 + b * z1 * w1 + c * w1 * w1) + (z1 * w3 - z3 * w1) * (z1 * w3 - z3 * w1) * (a * z2 * z2 + b * z2 * w2 + c * w2 * w2) - (z1 * w2 - z2 * w1) * (z1 * w2 - z2 * w1) * (a * z3 * z3 + b * z3 * w3 + c * w3 * w3) := by
        clear h1 h2 h3 d12 d13 d23
        grind
      rw [e, h1, h2, h3]
      grind
    exact (Gi.mul_zero' ((Gi.mul_zero' k).resolve_left d13)).resolve_left d23
  have dd := Gi.mul_ne d12 d12
  refine ⟨?_, ?_, ?_⟩
  · refine (Gi.mul_zero' (a := (z1 * w2 - z2 * w1) * (z1 * w2 - z2 * w1)) ?_).resolve_left dd
    have e : (z1 * w2 - z2 * w1) * (z1 * w2 - z2 * w1) * a = w2 * w2 * (a * z1 * z1 + b * z1 * w1 + c * w1 * w1) + w1 * w1 * (a * z2 * z2 + b * z2 * w2 + c * w2 * w2) - w1 * w2 * (2 * a * z1 * z2 + b * (z1 * w2 + z2 * w1) + 2 * c * w1 * w2) := by
      clear h1 h2 h3 d12 d13 d23 B0 dd
      grind
    rw [e, h1, h2, B0]
    grind
  · refine (Gi.mul_zero' (a := (z1 * w2 - z2 * w1) * (z1 * w2 - z2 * w1)) ?_).resolve_left dd
    have e : (z1 * w2 - z2 * w1) * (z1 * w2 - z2 * w1) * b = -(2 * z2 * w2 * (a * z1 * z1 + b * z1 * w1 + c * w1 * w1)) - 2 * z1 * w1 * (a * z2 * z2 + b * z2 * w2 + c * w2 * w2) + (z1 * w2 + z2 * w1) * (2 * a * z1 * z2 + b * (z1 * w2 + z2 * w1) + 2 * c * w1 * w2) := by
      clear h1 h2 h3 d12 d13 d23 B0 dd
      grind
    rw [e, h1, h2, B0]
    grind
  · refine (Gi.mul_zero' (a := (z1 * w2 - z2 * w1) * (z1 * w2 - z2 * w1)) ?_).resolve_left dd
    have e : (z1 * w2 - z2 * w1) * (z1 * w2 - z2 * w1) * c = z2 * z2 * (a * z1 * z1 + b * z1 * w1 + c * w1 * w1) + z1 * z1 * (a * z2 * z2 + b * z2 * w2 + c * w2 * w2) - z1 * z2 * (2 * a * z1 * z2 + b * (z1 * w2 + z2 * w1) + 2 * c * w1 * w2) := by
      clear h1 h2 h3 d12 d13 d23 B0 dd
      grind
    rw [e, h1, h2, B0]
    grind
theorem fl_im {f : Int} {a : Int} : fl f (⟨a, 0⟩ : Gi) = ⟨a, 0⟩ := by
  unfold fl; split
  · exact Gi.ext' rfl (by show -(0 : Int) = 0; rfl)
  · rfl
theorem fl_inj' {f : Int} {a b : Gi} (h : fl f a = fl f b) : a = b := by
  unfold fl at h
  split at h
  · have := congrArg Gi.cj h; rw [Gi.cj_cj, Gi.cj_cj] at this; exact this
  · exact h
/-- unlike places are not along one another -/
theorem pt_cross {a b : Nat} {f : Int} {p q : P3} (hp : Pt a p) (hq : Pt b q) (ne : p ≠ q) : fl f (zG p) * rG q - fl f (zG q) * rG p ≠ 0 := fun e => by
  apply ne
  have e1 : fl f (zG p * rG q) = fl f (zG q * rG p) := by
    have r1 : fl f (rG q) = rG q := fl_im
    have r2 : fl f (rG p) = rG p := fl_im
    have m1 : ∀ a b : Gi, fl f (a * b) = fl f a * fl f b := fun a b => by
      unfold fl; split
      · exact Gi.cj_mul a b
      · rfl
    rw [m1, m1, r1, r2]
    grind
  have e2 := fl_inj' e1
  have h := HG.self hq
  have h2 := HG.self hp
  have s := h2.nz
  exact HG.uniq h2 (h.tr s (by rw [show zG q * rG p = zG p * rG q from e2.symm]))
theorem Led.three {l n a b c n1 n2 n3 l1 l2 l3 : Nat} {f : Int} {m m' : G4} {p q s t u v : P3} (hm : Mq l f m) (hm' : Mq n f m') (hp : Pt a p) (hq : Pt b q) (hs : Pt c s) (pq : p ≠ q) (ps : p ≠ s) (qs : q ≠ s)
    (h1 : Led n1 f m p t) (h1' : Led l1 f m' p t) (h2 : Led n2 f m q u) (h2' : Led l2 f m' q u) (h3 : Led n3 f m s v) (h3' : Led l3 f m' s v) : m = m' := by
  have c1 := HG.cross h1 h1'
  have c2 := HG.cross h2 h2'
  have c3 := HG.cross h3 h3'
  have d12 := pt_cross (f := f) hp hq pq
  have d13 := pt_cross (f := f) hp hs ps
  have d23 := pt_cross (f := f) hq hs qs
  have fm := hm.fm
  have fm' := hm'.fm
  have dt := hm.dt
  have dt' := hm'.dt
  clear h1 h1' h2 h2' h3 h3' hm hm'
  generalize fl f (zG p) = z1 at *
  generalize fl f (zG q) = z2 at *
  generalize fl f (zG s) = z3 at *
  generalize rG p = w1 at *
  generalize rG q = w2 at *
  generalize rG s = w3 at *
  obtain ⟨A, B, C, D⟩ := m
  obtain ⟨A', B', C', D'⟩ := m'
  unfold apz apw at c1 c2 c3
  unfold dtG at dt dt'
  simp only at c1 c2 c3 dt dt'
  obtain ⟨q1, q2, q3⟩ := quad3 (a := A * C' - A' * C) (b := A * D' + B * C' - A' * D - B' * C) (c := B * D' - B' * D) d12 d13 d23 (by clear c2 c3 d12 d13 d23 dt dt'; grind) (by clear c1 c3 d12 d13 d23 dt dt'; grind) (by clear c1 c2 d12 d13 d23 dt dt'; grind)
  clear c1 c2 c3 d12 d13 d23
  have x0 : D' * A - B' * C ≠ 0 := fun z => by
    have k1 : A' * D - C' * B = 0 := by grind
    have : (A' * D' - B' * C') * (A * D - B * C) = 0 := by
      have e : (A' * D' - B' * C') * (A * D - B * C) = (D' * A - B' * C) * (A' * D - C' * B) + (B * D' - B' * D) * (A * C' - A' * C) := by clear z k1 q1 q2 q3 dt dt'; grind
      rw [e, z, q3]
      grind
    exact (Gi.mul_ne dt' dt) this
  refine fm.along fm' dt' x0 ?_
  unfold L2.G.scl
  simp only [Prod.mk.injEq]
  refine ⟨?_, ?_, ?_, ?_⟩
  · clear x0 dt dt' fm fm'; grind
  · clear x0 dt dt' fm fm'; grind
  · clear x0 dt dt' fm fm'; grind
  · clear x0 dt dt' fm fm'; grind

def apG (p q : P3) : Gi := zG p * rG q - zG q * rG p
/-- leads p to 0, q to the far place, s to 1 -/
def C3 (p q s : P3) : G4 := (apG s q * rG p, apG s q * -(zG p), apG s p * rG q, apG s p * -(zG q))
theorem apG_nz {a b : Nat} {p q : P3} (hp : Pt a p) (hq : Pt b q) (ne : p ≠ q) : apG p q ≠ 0 := by
  have h := pt_cross (f := 0) hp hq ne
  have e : ∀ z : Gi, fl 0 z = z := fun z => by unfold fl; simp
  rw [e, e] at h
  exact h
theorem c3_dt (p q s : P3) : dtG (C3 p q s) = apG s q * apG s p * (-(apG q p)) := by
  unfold dtG C3 apG
  simp only
  grind
theorem c3_nz {a b c : Nat} {p q s : P3} (hp : Pt a p) (hq : Pt b q) (hs : Pt c s) (pq : p ≠ q) (ps : p ≠ s) (qs : q ≠ s) : dtG (C3 p q s) ≠ 0 := by
  rw [c3_dt]
  have h := apG_nz hq hp (Ne.symm pq)
  refine Gi.mul_ne (Gi.mul_ne (apG_nz hs hq (Ne.symm qs)) (apG_nz hs hp (Ne.symm ps))) fun z => h ?_
  have : -(-(apG q p)) = 0 := by rw [z]; grind
  rw [show apG q p = -(-(apG q p)) by grind, this]
abbrev pZ : P3 := (0, 0, 1)
abbrev pF : P3 := (1, 0, 0)
abbrev pU : P3 := (1, 0, 1)
theorem pt_Z : Pt 1 pZ := ⟨.inr (by decide), by decide, sz_0, sz_0, sz_1 (by decide)⟩
theorem pt_U : Pt 1 pU := ⟨.inr (by decide), by decide, sz_1 (by decide), sz_0, sz_1 (by decide)⟩
theorem fl_0 (z : Gi) : fl 0 z = z := by unfold fl; simp
theorem c3_led {a b c : Nat} {p q s : P3} (hp : Pt a p) (hq : Pt b q) (hs : Pt c s) (pq : p ≠ q) (ps : p ≠ s) (qs : q ≠ s) : Led 1 0 (C3 p q s) p pZ ∧ Led 1 0 (C3 p q s) q pF ∧ Led 1 0 (C3 p q s) s pU := by
  have d := c3_nz hp hq hs pq ps qs
  have z0 : zG pZ = 0 := rfl
  have r0 : rG pZ = 1 := rfl
  have z1 : zG pF = 1 := rfl
  have r1 : rG pF = 0 := rfl
  have z2 : zG pU = 1 := rfl
  have r2 : rG pU = 1 := rfl
  refine ⟨⟨pt_Z, ?_, led_nz d hp⟩, ⟨pt_far (by decide), ?_, led_nz d hq⟩, ⟨pt_U, ?_, led_nz d hs⟩⟩
  · rw [z0, r0, fl_0]
    unfold apz apw C3
    simp only
    grind
  · rw [z1, r1, fl_0]
    unfold apz apw C3
    simp only
    grind
  · rw [z2, r2, fl_0]
    unfold apz apw C3 apG
    simp only
    grind
/-- m leads three places to three -/
structure L3 (f : Int) (m : G4) (p q s p' q' s' : P3) : Prop where
  a : ∃ n, Led n f m p p'
  b : ∃ n, Led n f m q q'
  c : ∃ n, Led n f m s s'
theorem L3.uniq {l n a b c : Nat} {f : Int} {m m' : G4} {p q s t u v : P3} (hm : Mq l f m) (hm' : Mq n f m') (hp : Pt a p) (hq : Pt b q) (hs : Pt c s) (pq : p ≠ q) (ps : p ≠ s) (qs : q ≠ s) (h : L3 f m p q s t u v) (h' : L3 f m' p q s t u v) : m = m' := by
  obtain ⟨_, a1⟩ := h.a
  obtain ⟨_, a2⟩ := h.b
  obtain ⟨_, a3⟩ := h.c
  obtain ⟨_, b1⟩ := h'.a
  obtain ⟨_, b2⟩ := h'.b
  obtain ⟨_, b3⟩ := h'.c
  exact Led.three hm hm' hp hq hs pq ps qs a1 b1 a2 b2 a3 b3
theorem led_conj {n : Nat} {m : G4} {p t : P3} : Led n 1 m p t ↔ Led n 0 m (cjP p) t := by
  unfold Led
  have e1 : fl 1 (zG p) = fl 0 (zG (cjP p)) := by rw [fl_0, zG_cj]; rfl
  have e2 : rG (cjP p) = rG p := rG_cj p
  rw [e1, e2]

theorem cz_zG {n : Nat} {p : P3} (h : Pt n p) : Cz n ((zG p).re, (zG p).im) := ⟨h.s1, h.s2⟩
theorem cz_rG {n : Nat} {p : P3} (h : Pt n p) : Cz n ((rG p).re, (rG p).im) := ⟨h.s3, sz_0⟩
theorem cz_apG {a b : Nat} {p q : P3} (hp : Pt a p) (hq : Pt b q) : Cz (a + b + 2) ((apG p q).re, (apG p q).im) := by
  have h1 := (cz_zG hp).mulG (cz_rG hq)
  have h2 := (cz_zG hq).mulG (cz_rG hp)
  exact ((h1.sub (h2.mono (show b + a + 1 ≤ a + b + 1 by omega))))
theorem nz_cz {n : Nat} {a : Gi} (h : Cz n (a.re, a.im)) : Nz (2 * n + 2) a := nz_of h.1 h.2
theorem n4_C3 {a b c : Nat} {p q s : P3} (hp : Pt a p) (hq : Pt b q) (hs : Pt c s) : N4 (2 * (a + b + c + max a b) + 10) (C3 p q s) := by
  have u := cz_apG hs hq
  have v := cz_apG hs hp
  have zp := cz_zG hp
  have zq := cz_zG hq
  have mp : Cz a ((-(zG p)).re, (-(zG p)).im) := ⟨hp.s1.neg, hp.s2.neg⟩
  have mq : Cz b ((-(zG q)).re, (-(zG q)).im) := ⟨hq.s1.neg, hq.s2.neg⟩
  refine ⟨(nz_cz (u.mulG (cz_rG hp))).mono (by omega), (nz_cz (u.mulG mp)).mono (by omega), (nz_cz (v.mulG (cz_rG hq))).mono (by omega), (nz_cz (v.mulG mq)).mono (by omega)⟩
theorem w_scaledR {T : Tk} {n a : Nat} {b : Gi} {q : P3} {k : KD} (hb : Cz n (b.re, b.im)) (hq : Pt a q) (hn : n + a ≤ 50000) (h : k (gD (b * rG q)) T) : sm_scaled [.val (gD b), .val (.int q.2.2)] T k := by
  refine w_scaled (n := n + a) (hb.mono (by omega)) (hq.s3.mono (by omega)) (by omega) ?_
  have e : gD (b * rG q) = .tup [.int (q.2.2 * b.re), .int (q.2.2 * b.im)] := by
    show D.tup [.int (b.re * q.2.2 - b.im * 0), .int (b.re * 0 + b.im * q.2.2)] = _
    rw [Int.mul_zero, Int.mul_zero, Int.sub_zero, Int.zero_add, Int.mul_comm b.re, Int.mul_comm b.im]
  rw [← e]
  exact h
theorem w_apart {T : Tk} {a b : Nat} {p q : P3} {k : KD} (hp : Pt a p) (hq : Pt b q) (hn : a + b ≤ 20000) (h : k (gD (apG p q)) T) : sm_apart [.val (pD p), .val (pD q)] T k := by
  rw [e_apart, b_apart]
  walk_at "wk"
  rw [show D.tup [.int p.1, .int p.2.1] = gD (zG p) from rfl]
  refine w_scaledR (cz_zG hp) hq (by omega) ?_
  walk_at "wk"
  rw [show D.tup [.int q.1, .int q.2.1] = gD (zG q) from rfl]
  refine w_scaledR (cz_zG hq) hp (by omega) ?_
  walk_at "wk"
  exact w_minusG h
theorem w_chart_to_three {T : Tk} {a b c : Nat} {p q s : P3} {PS : D} {k : KD} (hN : PS.it? = some [pD p, pD q, pD s]) (hp : Pt a p) (hq : Pt b q) (hs : Pt c s) (pq : p ≠ q) (ps : p ≠ s) (qs : q ≠ s) (hn : 2 * (a + b + c + max a b) + 10 ≤ 1900) (h : ∀ m, Fm (2 * (a + b + c + max a b) + 10) (C3 p q s) m → k (mD 0 m) T) : sm_chart_to_three [.val PS] T k := by
  have N := n4_C3 hp hq hs
  have u := cz_apG hs hq
  have v := cz_apG hs hp
  have mp : Cz a ((-(zG p)).re, (-(zG p)).im) := ⟨hp.s1.neg, hp.s2.neg⟩
  have mq : Cz b ((-(zG q)).re, (-(zG q)).im) := ⟨hq.s1.neg, hq.s2.neg⟩
  rw [e_chart_to_three, b_chart_to_three]
  walk_at "wk"
  rw [hN]
  walk_at "wk"
  refine w_apart hs hq (by omega) ?_
  walk_at "wk"
  refine w_apart hs hp (by omega) ?_
  walk_at "wk"
  refine w_scaledR u hp (by omega) ?_
  walk_at "wk"
  rw [show D.tup [.int (-p.1), .int (-p.2.1)] = gD (-(zG p)) from rfl]
  refine w_timesG u mp (by omega) (by omega) ?_
  walk_at "wk"
  refine w_scaledR v hq (by omega) ?_
  walk_at "wk"
  rw [show D.tup [.int (-q.1), .int (-q.2.1)] = gD (-(zG q)) from rfl]
  refine w_timesG v mq (by omega) (by omega) ?_
  walk_at "wk"
  exact w_form_of (N := C3 p q s) rfl N.s1 N.s2 N.s3 N.s4 (by omega) (dt_fst (c3_nz hp hq hs pq ps qs)) h

theorem Led.ex {n a : Nat} {f : Int} {m : G4} {q : P3} (hm : Mq n f m) (hq : Pt a q) : ∃ t, Led (2 * (n + a + 2) + 1) f m q t := by
  have nz := led_nz (f := f) hm.dt hq
  obtain ⟨t, ht⟩ := hp_ex (n := n + a + 2) (z := ((m.1 * fl f (zG q) + m.2.1 * rG q).re, (m.1 * fl f (zG q) + m.2.1 * rG q).im)) (w := ((m.2.2.1 * fl f (zG q) + m.2.2.2 * rG q).re, (m.2.2.1 * fl f (zG q) + m.2.2.2 * rG q).im)) (cz_ap hm.s1 hm.s2 hq) (cz_ap hm.s3 hm.s4 hq) (fun ⟨u, v⟩ => nz ⟨Gi.eq0.mp u, Gi.eq0.mp v⟩)
  exact ⟨t, HP.hg ht⟩
theorem led_bk {l n b c : Nat} {f : Int} {m m' : G4} {q t : P3} (hm : Mq n f m) (hb : Fm l (Bk f m) m') (hq : Pt c q) (h : Led b f m q t) : ∃ j, Led j f m' t q := by
  have hm' := hm.bk hb
  obtain ⟨s, hs⟩ := Led.ex hm' h.pt
  obtain rfl := Led.back hm hb hm'.dt hq h hs
  exact ⟨_, hs⟩
theorem cj_inj {p q : P3} (h : cjP p = cjP q) : p = q := by
  obtain ⟨a, b, c⟩ := p
  obtain ⟨a', b', c'⟩ := q
  unfold cjP at h
  simp only [Prod.mk.injEq] at h ⊢
  omega
theorem l3_join {a b c a' b' c' l1 l2 l3 l4 : Nat} {p q s p' q' s' : P3} {g gb h x : G4} (hp : Pt a p) (hq : Pt b q) (hs : Pt c s) (pq : p ≠ q) (ps : p ≠ s) (qs : q ≠ s) (hp' : Pt a' p') (hq' : Pt b' q') (hs' : Pt c' s') (pq' : p' ≠ q') (ps' : p' ≠ s') (qs' : q' ≠ s')
    (hg : Fm l1 (C3 p' q' s') g) (hb : Fm l2 (Bk 0 g) gb) (hh : Fm l3 (C3 p q s) h) (hx : Fm l4 (Pr 0 gb h) x) : L3 0 x p q s p' q' s' := by
  obtain ⟨g1, g2, g3⟩ := c3_led hp' hq' hs' pq' ps' qs'
  obtain ⟨h1, h2, h3⟩ := c3_led hp hq hs pq ps qs
  have qg : Mq l1 0 g := hg.mq (.inl rfl) (c3_nz hp' hq' hs' pq' ps' qs')
  have qb := qg.bk hb
  obtain ⟨_, k1⟩ := led_bk qg hb hp' (hg.led g1)
  obtain ⟨_, k2⟩ := led_bk qg hb hq' (hg.led g2)
  obtain ⟨_, k3⟩ := led_bk qg hb hs' (hg.led g3)
  exact ⟨⟨_, hx.led (Led.two (a := a) qb.dt (.inl rfl) (.inl rfl) (hh.led h1) k1)⟩, ⟨_, hx.led (Led.two (a := a) qb.dt (.inl rfl) (.inl rfl) (hh.led h2) k2)⟩, ⟨_, hx.led (Led.two (a := a) qb.dt (.inl rfl) (.inl rfl) (hh.led h3) k3)⟩⟩
theorem w_check_triple {rk : RK} {T : Tk} {a b c : Nat} {p q s : P3} {k : KD} (hp : Pt a p) (hq : Pt b q) (hs : Pt c s) (pq : p ≠ q) (ps : p ≠ s) (qs : q ≠ s) (h : k .non T) : se_check_triple rk [.val (.tup [pD p, pD q, pD s])] T k := by
  have ea : ∀ u v : P3, (decide (u.1 = v.1) && (decide (u.2.1 = v.2.1) && decide (u.2.2 = v.2.2))) = decide (u = v) := fun u v => by
    obtain ⟨u1, u2, u3⟩ := u
    obtain ⟨v1, v2, v3⟩ := v
    simp only [Prod.mk.injEq, Bool.decide_and]
  rw [ex_check_triple, b_check_triple, k_MANY]
  walk_at "wk"
  refine w_is_place_pt hp ?_
  walk_at "wk"
  refine w_is_place_pt hq ?_
  walk_at "wk"
  rw [ea, decide_eq_false pq]
  walk_at "wk"
  refine w_is_place_pt hs ?_
  walk_at "wk"
  rw [ea, ea, decide_eq_false ps, decide_eq_false qs]
  walk_at "wk"
  exact h
theorem w_plain_through {rk : RK} {T : Tk} {a a' : Nat} {p q s p' q' s' : P3} {k : KD} (hp : Pt a p) (hq : Pt a q) (hs : Pt a s) (pq : p ≠ q) (ps : p ≠ s) (qs : q ≠ s) (hp' : Pt a' p') (hq' : Pt a' q') (hs' : Pt a' s') (pq' : p' ≠ q') (ps' : p' ≠ s') (qs' : q' ≠ s') (hn : 8 * a + 8 * a' + 20 ≤ 1850)
    (h : ∀ x, Mq (8 * a + 8 * a' + 22) 0 x → L3 0 x p q s p' q' s' → k (mD 0 x) T) : se_plain_through rk [.val (.tup [pD p, pD q, pD s]), .val (.tup [pD p', pD q', pD s'])] T k := by
  rw [ex_plain_through, b_plain_through]
  walk_at "wk"
  refine w_check_triple hp hq hs pq ps qs ?_
  walk_at "wk"
  refine w_check_triple hp' hq' hs' pq' ps' qs' ?_
  walk_at "wk"
  refine w_chart_to_three rfl hp' hq' hs' pq' ps' qs' (by omega) fun g hg => ?_
  have qg : Mq _ 0 g := hg.mq (.inl rfl) (c3_nz hp' hq' hs' pq' ps' qs')
  walk_at "wk"
  refine w_way_back qg (by omega) fun gb hb => ?_
  walk_at "wk"
  refine w_chart_to_three rfl hp hq hs pq ps qs (by omega) fun c hc => ?_
  have qc : Mq _ 0 c := hc.mq (.inl rfl) (c3_nz hp hq hs pq ps qs)
  walk_at "wk"
  refine w_joined (qg.bk hb) qc (by omega) fun x hx => ?_
  exact h x (((qg.bk hb).pr qc hx).mono (by omega)) (l3_join hp hq hs pq ps qs hp' hq' hs' pq' ps' qs' hg hb hc hx)
theorem w_mirrored_through {rk : RK} {T : Tk} {a a' : Nat} {p q s p' q' s' : P3} {k : KD} (hp : Pt a p) (hq : Pt a q) (hs : Pt a s) (pq : p ≠ q) (ps : p ≠ s) (qs : q ≠ s) (hp' : Pt a' p') (hq' : Pt a' q') (hs' : Pt a' s') (pq' : p' ≠ q') (ps' : p' ≠ s') (qs' : q' ≠ s') (hn : 8 * a + 8 * a' + 20 ≤ 1850)
    (h : ∀ x, Mq (8 * a + 8 * a' + 22) 1 x → L3 1 x p q s p' q' s' → k (mD 1 x) T) : se_mirrored_through rk [.val (.tup [pD p, pD q, pD s]), .val (.tup [pD p', pD q', pD s'])] T k := by
  rw [ex_mirrored_through, b_mirrored_through]
  walk_at "wk"
  refine w_check_triple hp hq hs pq ps qs ?_
  walk_at "wk"
  refine w_check_triple hp' hq' hs' pq' ps' qs' ?_
  walk_at "wk"
  refine w_chart_to_three rfl hp' hq' hs' pq' ps' qs' (by omega) fun g hg => ?_
  have qg : Mq _ 0 g := hg.mq (.inl rfl) (c3_nz hp' hq' hs' pq' ps' qs')
  walk_at "wk"
  refine w_way_back qg (by omega) fun gb hb => ?_
  walk_at "wk"
  have cpq : cjP p ≠ cjP q := fun e => pq (cj_inj e)
  have cps : cjP p ≠ cjP s := fun e => ps (cj_inj e)
  have cqs : cjP q ≠ cjP s := fun e => qs (cj_inj e)
  refine w_chart_to_three (p := cjP p) (q := cjP q) (s := cjP s) rfl hp.cj hq.cj hs.cj cpq cps cqs (by omega) fun c hc => ?_
  have qc : Mq _ 0 c := hc.mq (.inl rfl) (c3_nz hp.cj hq.cj hs.cj cpq cps cqs)
  walk_at "wk"
  refine w_joined (qg.bk hb) qc (by omega) fun x hx => ?_
  have l := l3_join hp.cj hq.cj hs.cj cpq cps cqs hp' hq' hs' pq' ps' qs' hg hb hc hx
  have q := ((qg.bk hb).pr qc hx).mono (show _ ≤ 8 * a + 8 * a' + 22 by omega)
  walk_at "wk"
  exact h x ⟨.inr rfl, q.mp, q.dt, q.s1, q.s2, q.s3, q.s4⟩ ⟨l.a.elim fun n z => ⟨n, led_conj.mpr z⟩, l.b.elim fun n z => ⟨n, led_conj.mpr z⟩, l.c.elim fun n z => ⟨n, led_conj.mpr z⟩⟩

theorem n4_mm {l : Nat} {r : R4} (h : S4 l r) : N4 (2 * l + 10) (MM r) := by
  have z : Sz (l + 2) 0 := sz_0
  refine ⟨(nz_of (n := l + 2) (h.s2.neg.mono (by omega)) (h.s3.neg.mono (by omega))).mono (by omega), (nz_of (n := l + 2) ((sz2x.mul h.s4).neg.mono (by omega)) z).mono (by omega), (nz_of (n := l + 2) ((sz2x.mul h.s1).mono (by omega)) z).mono (by omega), (nz_of (n := l + 2) (h.s2.mono (by omega)) (h.s3.neg.mono (by omega))).mono (by omega)⟩
theorem mm_lst (r : R4) : D.lst [.tup [.int (-r.2.1), .int (-r.2.2.1)], .tup [.int (-(2 * r.2.2.2)), .int 0], .tup [.int (2 * r.1), .int 0], .tup [.int r.2.1, .int (-r.2.2.1)]] = .lst [gD (MM r).1, gD (MM r).2.1, gD (MM r).2.2.1, gD (MM r).2.2.2] := rfl
theorem w_mirror_of {T : Tk} {l : Nat} {r : R4} {k : KD} (hr : Rd l r) (hn : l ≤ 900) (h : ∀ m, Fm (2 * l + 10) (MM r) m → k (mD 1 m) T) : sm_mirror_of [.val (rD r)] T k := by
  have N := n4_mm hr.s4'
  rw [e_mirror_of, b_mirror_of]
  walk_at "wk"
  refine ⟨szm2x.mulOk hr.s4 (by decide) (by omega), sz2x.mulOk hr.s1 (by decide) (by omega), ?_⟩
  rw [mm_lst]
  exact w_form_of (N := MM r) rfl N.s1 N.s2 N.s3 N.s4 (by omega) (dt_fst (mm_nz hr.toRw)) h
theorem Fm.self {n : Nat} {N m : G4} (h : Fm n N m) : Fm n m m := ⟨h.mp, ⟨1, one_ne, (scl_one m).symm⟩, h.s1, h.s2, h.s3, h.s4⟩
/-- the ratio of four places -/
structure Rt (n : Nat) (u v w z q : P3) : Prop where
  h : HG n q (apG u w * apG v z) (apG v w * apG u z)
theorem Rt.uniq {l n : Nat} {u v w z q q' : P3} (h : Rt l u v w z q) (h' : Rt n u v w z q') : q = q' := h.h.uniq h'.h
theorem Rt.nz {a b c d : Nat} {u v w z : P3} (hu : Pt a u) (hv : Pt b v) (hw : Pt c w) (hz : Pt d z) (uw : u ≠ w) (vz : v ≠ z) : ¬(apG u w * apG v z = 0 ∧ apG v w * apG u z = 0) := fun ⟨e, _⟩ => Gi.mul_ne (apG_nz hu hw uw) (apG_nz hv hz vz) e
theorem w_four_ratio {T : Tk} {a : Nat} {u v w z : P3} {k : KD} (hu : Pt a u) (hv : Pt a v) (hw : Pt a w) (hz : Pt a z) (uw : u ≠ w) (vz : v ≠ z) (hn : 4 * a + 5 ≤ 4000) (h : ∀ q, Rt (2 * (4 * a + 5) + 1) u v w z q → k (pD q) T) : sm_four_ratio [.val (pD u), .val (pD v), .val (pD w), .val (pD z)] T k := by
  have c1 := cz_apG hu hw
  have c2 := cz_apG hv hz
  have c3 := cz_apG hv hw
  have c4 := cz_apG hu hz
  have nz := Rt.nz hu hv hw hz uw vz
  rw [e_four_ratio, b_four_ratio]
  walk_at "wk"
  refine w_apart hu hw (by omega) ?_
  walk_at "wk"
  refine w_apart hv hz (by omega) ?_
  walk_at "wk"
  refine w_timesG c1 c2 (by omega) (by omega) ?_
  walk_at "wk"
  refine w_apart hv hw (by omega) ?_
  walk_at "wk"
  refine w_apart hu hz (by omega) ?_
  walk_at "wk"
  refine w_timesG c3 c4 (by omega) (by omega) ?_
  walk_at "wk"
  exact w_quotient_hp (n := 4 * a + 5) (z := ((apG u w * apG v z).re, (apG u w * apG v z).im)) (w := ((apG v w * apG u z).re, (apG v w * apG u z).im)) ((c1.mulG c2).mono (by omega)) ((c3.mulG c4).mono (by omega)) hn (fun ⟨x, y⟩ => nz ⟨Gi.eq0.mp x, Gi.eq0.mp y⟩) fun q hq => h q ⟨HP.hg hq⟩
theorem isW_2 {d : D} (h : isW 2 d = true) : ∃ a b, d = .tup [.int a, .int b] := by
  cases d with
  | tup xs =>
    simp only [isW, Bool.and_eq_true, decide_eq_true_eq] at h
    obtain ⟨hl, ha⟩ := h
    match xs, hl with
    | [x, y], _ =>
      simp only [List.all_cons, List.all_nil, Bool.and_true, Bool.and_eq_true] at ha
      obtain ⟨h1, h2⟩ := ha
      cases x <;> first | (simp only [isI] at h1; exact absurd h1 (by decide)) | skip
      cases y <;> first | (simp only [isI] at h2; exact absurd h2 (by decide)) | skip
      exact ⟨_, _, rfl⟩
    | [], h => exact absurd h (by decide)
    | [_], h => simp at h
    | _ :: _ :: _ :: _, h => simp at h; omega
  | _ => simp only [isW] at h; exact absurd h (by decide)
theorem w_is_complex_v {T : Tk} {d : D} {k : KD} (hd : VOk d) (h : k (.bl (isW 2 d)) T) : sm_is_complex [.val d] T k := by
  rw [e_is_complex, b_is_complex]
  walk_at "wk"
  exact w_are_wholes_v hd h
theorem map_lc {A0 : Option SV} {k : List D → Tk → Prop} {T : Tk} : ∀ (ys acc : List D), (∀ y ∈ ys, VOk y) → k (acc ++ ys.filter fun y => !isW 2 y) T → lcK [A0, none] (cN 1) (dNot (dTst (dCall 1 sm_is_complex (aCons (dVar 1) (aNil))))) (dVar 1) k ys acc T
  | [], acc, _, h => by
    rw [List.filter_nil, List.append_nil] at h
    exact h
  | y :: ys, acc, hy, h => by
    have ih := map_lc (A0 := A0) (k := k) (T := T) ys
    walk_at "wk"
    refine w_is_complex_v (hy y List.mem_cons_self) ?_
    cases q : isW 2 y with
    | true =>
      walk_at "wk"
      rw [List.filter_cons, if_neg (by rw [q]; decide)] at h
      exact ih acc (fun z hz => hy z (List.mem_cons_of_mem _ hz)) h
    | false =>
      walk_at "wk"
      rw [List.filter_cons, if_pos (by rw [q]; rfl)] at h
      exact ih (acc ++ [y]) (fun z hz => hy z (List.mem_cons_of_mem _ hz)) (by rw [List.append_assoc]; exact h)
theorem w_is_map_odd {T : Tk} {f : Int} {y1 y2 y3 y4 : D} {k : KD} (hf : f = 0 ∨ f = 1) (hv : ∀ y ∈ [y1, y2, y3, y4], VOk y) (ho : ∀ y ∈ [y1, y2, y3, y4], okN 3 y) (odd : ∃ y ∈ [y1, y2, y3, y4], isW 2 y = false) (h : k (.bl false) T) : sm_is_map [.val (.tup [.int f, y1, y2, y3, y4])] T k := by
  rw [e_is_map, b_is_map, k_ZERO]
  walk_at "wkn"
  refine w_is_flag hf ?_
  walk_at "wkn"
  refine map_lc [y1, y2, y3, y4] [] hv ?_
  obtain ⟨y, my, q⟩ := odd
  have mem : y ∈ [y1, y2, y3, y4].filter fun y => !isW 2 y := List.mem_filter.mpr ⟨my, by rw [q]; rfl⟩
  have sub : ∀ z ∈ [y1, y2, y3, y4].filter fun y => !isW 2 y, okN 3 z := fun z hz => ho z (List.mem_filter.mp hz).1
  rw [List.nil_append]
  generalize [y1, y2, y3, y4].filter (fun y => !isW 2 y) = zs at mem sub ⊢
  have ok : (D.lst zs).eqOk := ok_okN (n := 4) (by simp only [okN]; exact ⟨by decide, okL_of sub⟩) (by decide)
  obtain ⟨z, zs', rfl⟩ : ∃ z zs', zs = z :: zs' := by
    cases zs with
    | nil => cases mem
    | cons a b => exact ⟨a, b, rfl⟩
  walk_at "wkn"
  exact ⟨ok, h⟩
theorem w_is_map_n5 {T : Tk} {d : D} {k : KD} (pd : Pln d) (hl : ∀ xs, d = .tup xs → xs.length ≠ 5) (h : k (.bl false) T) : sm_is_map [.val d] T k := by
  rw [e_is_map, b_is_map]
  cases d with
  | obj _ _ _ => exact pd.elim
  | ref _ => exact pd.elim
  | tup xs =>
    have ne : decide ((xs.length : Int) = 5) = false := decide_eq_false (by have := hl xs rfl; omega)
    walk_at "wkn"
    rw [ne]
    walk_at "wkn"
    exact h
  | bl b => walk_at "wk"; simpa [isTy] using h
  | int i => walk_at "wk"; simpa [isTy] using h
  | non => walk_at "wk"; simpa [isTy] using h
  | str s => walk_at "wk"; simpa [isTy] using h
  | lst s => walk_at "wk"; simpa [isTy] using h
  | scr s => walk_at "wk"; simpa [isTy] using h
  | dct s t => walk_at "wk"; simpa [isTy] using h
/-- what is no flag -/
def noF (d : D) : Prop := d = .int 2 ∨ d = .int (-1) ∨ d = .bl true ∨ d = .bl false ∨ d = .non ∨ d = .str "0"
theorem noF_ok {d : D} (h : noF d) : okN 3 d ∧ ∀ i, D.int i = d → Sz 100 i := by
  rcases h with rfl | rfl | rfl | rfl | rfl | rfl
  · exact ⟨by simp only [okN], fun i e => by cases e; unfold Sz; decide⟩
  · exact ⟨by simp only [okN], fun i e => by cases e; unfold Sz; decide⟩
  · exact ⟨by simp only [okN], fun _ z => nomatch z⟩
  · exact ⟨by simp only [okN], fun _ z => nomatch z⟩
  · exact ⟨by simp only [okN], fun _ z => nomatch z⟩
  · exact ⟨by simp only [okN]; decide +kernel, fun _ z => nomatch z⟩
theorem w_is_map_flag {T : Tk} {x y1 y2 y3 y4 : D} {k : KD} (hx : noF x) (h : k (.bl false) T) : sm_is_map [.val (.tup [x, y1, y2, y3, y4])] T k := by
  rw [e_is_map, b_is_map]
  walk_at "wkn"
  rw [e_is_flag, b_is_flag]
  walk_at "wkn"
  refine w_is_whole_v (okN_pln (noF_ok hx).1) ?_
  rcases hx with rfl | rfl | rfl | rfl | rfl | rfl
  · simp only [isI]
    walk_at "wkn"
    exact h
  · simp only [isI]
    walk_at "wkn"
    exact h
  · simp only [isI]
    walk_at "wkn"
    exact h
  · simp only [isI]
    walk_at "wkn"
    exact h
  · simp only [isI]
    walk_at "wkn"
    exact h
  · simp only [isI]
    walk_at "wkn"
    exact h
theorem scl2 (a b : Gi) (m : G4) : scl a (scl b m) = scl (a * b) m := by
  unfold scl
  simp only [Prod.mk.injEq]
  refine ⟨?_, ?_, ?_, ?_⟩ <;> grind
theorem g2_ex : ∀ (n : Nat) (a b : Gi), b.nm.toNat ≤ n → ∃ g, G2 g a b
  | 0, a, b, h => by
    have := b.nm_nn
    have z : b = 0 := Gi.nm_zero (by omega)
    rw [z]
    exact ⟨a, G2.zero a⟩
  | n + 1, a, b, h => by
    by_cases z : b = 0
    · rw [z]; exact ⟨a, G2.zero a⟩
    · have p := Gi.nm_pos z
      have q := nearG_nm (a := a) z
      have r := (a - nearG a b * b).nm_nn
      obtain ⟨g, hg⟩ := g2_ex n b (a - nearG a b * b) (by omega)
      exact ⟨g, hg.step⟩
/-- each four numbers have a map -/
theorem fm_ex {n : Nat} {N : G4} (hN : N4 n N) (nz : fst4 N ≠ 0) : ∃ m, Fm n N m := by
  obtain ⟨a, b, c, d⟩ := N
  obtain ⟨x1, h1⟩ := g2_ex _ 0 a (Nat.le_refl _)
  obtain ⟨x2, h2⟩ := g2_ex _ x1 b (Nat.le_refl _)
  obtain ⟨x3, h3⟩ := g2_ex _ x2 c (Nat.le_refl _)
  obtain ⟨x4, h4⟩ := g2_ex _ x3 d (Nat.le_refl _)
  have g := gd_of h1 h2 h3 h4
  have gn : x4 ≠ 0 := fun z => by
    obtain ⟨⟨p, e1⟩, ⟨q, e2⟩, ⟨r, e3⟩, ⟨s, e4⟩, _⟩ := g
    simp only at e1 e2 e3 e4
    rw [z] at e1 e2 e3 e4
    apply nz
    unfold fst4
    simp only
    rw [show a = 0 by rw [e1]; grind, show b = 0 by rw [e2]; grind, show c = 0 by rw [e3]; grind, show d = 0 by rw [e4]; grind]
    simp
  obtain ⟨⟨p, e1⟩, ⟨q, e2⟩, ⟨r, e3⟩, ⟨s, e4⟩, u, v, w, t, es⟩ := g
  simp only at e1 e2 e3 e4 es
  have eN : ((a, b, c, d) : G4) = scl x4 (p, q, r, s) := by
    unfold scl
    simp only [Prod.mk.injEq]
    refine ⟨?_, ?_, ?_, ?_⟩ <;> grind
  have bz : u * p + v * q + w * r + t * s = 1 := by
    refine Gi.cancel gn ?_
    rw [e1, e2, e3, e4] at es
    grind
  have f0 : fst4 (p, q, r, s) ≠ 0 := fun z => nz (by rw [eN, fst4_scl gn, z]; grind)
  have un := guni_nm (fst4 (p, q, r, s))
  have qf := guni_qf f0
  generalize hU : guni (fst4 (p, q, r, s)) = U at un qf
  have uc : U * U.cj = 1 := by rw [← nm_io, un]; rfl
  have U0 : U ≠ 0 := fun z => by rw [z] at un; exact absurd un (by decide)
  have eN2 : ((a, b, c, d) : G4) = scl (x4 * U.cj) (scl U (p, q, r, s)) := by
    rw [eN, scl2]
    congr 1
    rw [show x4 * U.cj * U = x4 * (U * U.cj) by grind, uc]
    grind
  have cn : x4 * U.cj ≠ 0 := Gi.mul_ne gn (Gi.cj_ne U0)
  have part : ∀ {x y : Gi}, Nz n x → x = x4 * U.cj * y → Nz n y := fun {x y} hx e => Nz.dvd cn (by rw [← e]; exact hx)
  have e' := eN2
  unfold scl at e'
  simp only [Prod.mk.injEq] at e'
  obtain ⟨k1, k2, k3, k4⟩ := e'
  refine ⟨scl U (p, q, r, s), ⟨⟨u * U.cj, v * U.cj, w * U.cj, t * U.cj, ?_⟩, ?_⟩, ⟨x4 * U.cj, cn, eN2⟩, part hN.s1 k1, part hN.s2 k2, part hN.s3 k3, part hN.s4 k4⟩
  · unfold scl
    simp only
    rw [show u * U.cj * (U * p) + v * U.cj * (U * q) + w * U.cj * (U * r) + t * U.cj * (U * s) = (U * U.cj) * (u * p + v * q + w * r + t * s) by grind, uc, bz]
    grind
  · rw [fst4_scl U0, show U * fst4 (p, q, r, s) = fst4 (p, q, r, s) * U by grind]
    exact qf
theorem sq_nn (a : Int) : 0 ≤ a * a := by
  rcases Int.le_total 0 a with o | o
  · exact Int.mul_nonneg o o
  · exact Int.mul_nonneg_of_nonpos_of_nonpos o o
theorem vok_tup {xs : List D} (l : xs.length ≤ 1000) (h : ∀ x ∈ xs, okN 3 x) (s : ∀ i, D.int i ∈ xs → Sz 100 i) : VOk (.tup xs) := ⟨trivial, fun ys e => by cases e; exact l, fun ys e => by cases e; exact h, fun ys e => by cases e; exact s⟩
theorem dec_g4 (m N : G4) : ((decide (m.1.re = N.1.re) && decide (m.1.im = N.1.im)) && ((decide (m.2.1.re = N.2.1.re) && decide (m.2.1.im = N.2.1.im)) && ((decide (m.2.2.1.re = N.2.2.1.re) && decide (m.2.2.1.im = N.2.2.1.im)) && (decide (m.2.2.2.re = N.2.2.2.re) && decide (m.2.2.2.im = N.2.2.2.im))))) = decide (m = N) := by
  simp only [← Bool.decide_and]
  refine decide_eq_decide.mpr ⟨fun ⟨⟨a, b⟩, ⟨c, d⟩, ⟨e, g⟩, ⟨i, j⟩⟩ => ?_, fun e => by subst e; simp⟩
  exact Prod.ext (Gi.ext' a b) (Prod.ext (Gi.ext' c d) (Prod.ext (Gi.ext' e g) (Gi.ext' i j)))
theorem w_is_map_g {T : Tk} {n : Nat} {f : Int} {N m : G4} {k : KD} (hf : f = 0 ∨ f = 1) (hN : N4 n N) (hn : n ≤ 1900) (d0 : dtG N ≠ 0) (hm : Fm n N m) (h : k (.bl (decide (m = N))) T) : sm_is_map [.val (mD f N)] T k := by
  rw [e_is_map, b_is_map, k_ZERO]
  walk_at "wk"
  refine w_is_flag hf ?_
  walk_at "wk"
  refine w_is_complex ?_
  walk_at "wk"
  refine w_is_complex ?_
  walk_at "wk"
  refine w_is_complex ?_
  walk_at "wk"
  refine w_is_complex ?_
  walk_at "wk"
  refine w_determinant hN.s1 hN.s2 hN.s3 hN.s4 (by omega) ?_
  walk_at "wk"
  rw [dec_gi, decide_eq_false d0]
  walk_at "wk"
  refine w_form_of (NS := .tup [gD N.1, gD N.2.1, gD N.2.2.1, gD N.2.2.2]) rfl hN.s1 hN.s2 hN.s3 hN.s4 (by omega) (dt_fst d0) fun m' hm' => ?_
  obtain rfl := hm.uniq hm'
  walk_at "wk"
  rw [dec_g4]
  exact h
theorem vok_g {n : Nat} {a : Gi} (h : Nz n a) (hn : n ≤ 100) : VOk (gD a) ∧ isW 2 (gD a) = true := by
  have sz : ∀ i : Int, i * i ≤ a.nm → Sz 100 i := fun i hi => by
    have : a.nm < 2 ^ n := h
    have : (2 : Int) ^ n ≤ 2 ^ 100 := by exact_mod_cast Nat.pow_le_pow_right (by decide) hn
    unfold Sz
    rcases Nat.lt_or_ge i.natAbs (2 ^ 100) with o | o
    · exact o
    · exfalso
      have q : ((i.natAbs : Nat) : Int) * i.natAbs = i * i := Int.natAbs_mul_self
      have o2 : (2 : Int) ^ 100 ≤ i.natAbs := by exact_mod_cast o
      have := Int.mul_le_mul o2 o2 (by decide) (by omega)
      omega
  have n1 : a.re * a.re ≤ a.nm := by unfold Gi.nm; have := sq_nn a.im; omega
  have n2 : a.im * a.im ≤ a.nm := by unfold Gi.nm; have := sq_nn a.re; omega
  refine ⟨vok_tup (by simp) (fun x hx => ?_) fun i hi => ?_, rfl⟩
  · simp only [List.mem_cons, List.not_mem_nil, or_false] at hx
    rcases hx with rfl | rfl <;> simp only [okN]
  · simp only [List.mem_cons, List.not_mem_nil, or_false, D.int.injEq] at hi
    rcases hi with rfl | rfl
    · exact sz _ n1
    · exact sz _ n2

theorem isW_4 {d : D} (h : isW 4 d = true) : ∃ a b c e, d = .tup [.int a, .int b, .int c, .int e] := by
  cases d with
  | tup xs =>
    simp only [isW, Bool.and_eq_true, decide_eq_true_eq] at h
    obtain ⟨hl, ha⟩ := h
    match xs, hl with
    | [x, y, z, w], _ =>
      simp only [List.all_cons, List.all_nil, Bool.and_true, Bool.and_eq_true] at ha
      obtain ⟨h1, h2, h3, h4⟩ := ha
      cases x <;> first | (simp only [isI] at h1; exact absurd h1 (by decide)) | skip
      cases y <;> first | (simp only [isI] at h2; exact absurd h2 (by decide)) | skip
      cases z <;> first | (simp only [isI] at h3; exact absurd h3 (by decide)) | skip
      cases w <;> first | (simp only [isI] at h4; exact absurd h4 (by decide)) | skip
      exact ⟨_, _, _, _, rfl⟩
    | [], h => exact absurd h (by decide)
    | [_], h => simp at h
    | [_, _], h => simp at h
    | [_, _, _], h => simp at h
    | _ :: _ :: _ :: _ :: _ :: _, h => simp at h; omega
  | _ => simp only [isW] at h; exact absurd h (by decide)
def isRw : D → Bool
  | .tup [.int a, .int b, .int c, .int d] => decide (gcdL 0 [a, b, c, d] = 1) && decide (0 < bnd (a, b, c, d))
  | _ => false
def isUp : D → Bool
  | .tup [.int a, .int b, .int c, .int d] => decide (0 < fnz [a, b, c, d])
  | _ => false
def isRd (d : D) : Bool := isRw d && isUp d
theorem isRw_no {d : D} (h : isW 4 d = false) : isRw d = false := by
  unfold isRw
  split
  · simp [isW, isI] at h
  · rfl
abbrev rV (r : R4) : D := .tup [.int r.1, .int r.2.1, .int r.2.2.1, .int r.2.2.2]
theorem isRw_of {d : D} (hd : VOk d) (h : isRw d = true) : ∃ r : R4, d = rV r ∧ Rw 100 r := by
  unfold isRw at h
  split at h
  · rename_i a b c e
    simp only [Bool.and_eq_true, decide_eq_true_eq] at h
    have s := hd.sz _ rfl
    exact ⟨(a, b, c, e), rfl, h.1, h.2, s a (by simp), s b (by simp), s c (by simp), s e (by simp)⟩
  · cases h
theorem isRd_of {d : D} (hd : VOk d) (h : isRd d = true) : ∃ r : R4, d = rV r ∧ Rd 100 r := by
  unfold isRd at h
  rw [Bool.and_eq_true] at h
  obtain ⟨r, rfl, hr⟩ := isRw_of hd h.1
  have u := h.2
  simp only [isUp, decide_eq_true_eq] at u
  exact ⟨r, rfl, hr, u⟩
theorem isPl_of {d : D} (hd : VOk d) (h : isPl d = true) : ∃ q : P3, d = pD q ∧ Pt 100 q := by
  unfold isPl at h
  split at h
  · rename_i a b c
    simp only [Bool.or_eq_true, Bool.and_eq_true, decide_eq_true_eq] at h
    have s := hd.sz _ rfl
    refine ⟨(a, b, c), rfl, h.imp id (·.1), ?_, s a (by simp), s b (by simp), s c (by simp)⟩
    rcases h with ⟨rfl, rfl, rfl⟩ | h
    · decide
    · exact h.2
  · cases h
theorem Rw.isRw {n : Nat} {r : R4} (h : Rw n r) : isRw (rV r) = true := by
  show (decide (gcdL 0 [r.1, r.2.1, r.2.2.1, r.2.2.2] = 1) && decide (0 < bnd r)) = true
  rw [decide_eq_true h.one, decide_eq_true h.bend]; rfl
theorem Rd.isRd {n : Nat} {r : R4} (h : Rd n r) : isRd (rV r) = true := by
  unfold L2.G.isRd
  rw [h.toRw.isRw]
  exact decide_eq_true h.up
theorem Pt.isPl {n : Nat} {q : P3} (h : Pt n q) : isPl (pD q) = true := by
  show ((decide (q.1 = 1) && (decide (q.2.1 = 0) && decide (q.2.2 = 0))) || (decide (0 < q.2.2) && decide (gcdL 0 [q.1, q.2.1, q.2.2] = 1))) = true
  rcases h.ok with ⟨e1, e2, e3⟩ | e
  · rw [decide_eq_true e1, decide_eq_true e2, decide_eq_true e3]; rfl
  · rw [decide_eq_true e, decide_eq_true h.one, Bool.and_self, Bool.or_true]
theorem w_is_row_v {T : Tk} {d : D} {k : KD} (hd : VOk d) (h : k (.bl (isRw d)) T) : sm_is_row [.val d] T k := by
  rw [e_is_row, b_is_row]
  walk_at "wkn"
  refine w_are_wholes_v hd ?_
  cases w : isW 4 d with
  | false =>
    rw [isRw_no w] at h
    walk_at "wkn"
    exact h
  | true =>
    obtain ⟨a, b, c, e, rfl⟩ := isW_4 w
    have s := hd.sz _ rfl
    rw [isRw] at h
    walk_at "wkn"
    refine w_is_lowest (ns := [a, b, c, e]) (by simp) ?_
    cases g : decide (gcdL 0 [a, b, c, e] = 1) with
    | false =>
      rw [g] at h
      walk_at "wkn"
      exact h
    | true =>
      rw [g, Bool.true_and] at h
      walk_at "wkn"
      refine w_bend (s a (by simp)) (s b (by simp)) (s c (by simp)) (s e (by simp)) (by decide) ?_
      walk_at "wkn"
      exact h
theorem w_is_round_v {T : Tk} {d : D} {k : KD} (hd : VOk d) (h : k (.bl (isRd d)) T) : sm_is_round [.val d] T k := by
  rw [e_is_round, b_is_round]
  walk_at "wkn"
  refine w_is_row_v hd ?_
  unfold isRd at h
  cases w : isRw d with
  | false =>
    rw [w, Bool.false_and] at h
    walk_at "wkn"
    exact h
  | true =>
    rw [w, Bool.true_and] at h
    obtain ⟨r, rfl, hr⟩ := isRw_of hd w
    walk_at "wkn"
    refine w_is_led_up4 ?_
    walk_at "wkn"
    exact h
theorem w_check_place_v {r : RK} {T : Tk} {d : D} {k : KD} (hd : VOk d) (h1 : isPl d = true → k .non T) (h2 : isPl d = false → r ⟨"InvalidPlace", some ("given", d)⟩ T) : se_check_place r [.val d] T k := by
  rw [ex_check_place, b_check_place]
  walk_at "wkn"
  refine w_is_place_v hd ?_
  walk_at "wkn"
  refine iteB_of (fun e => ?_) (fun e => ?_)
  · walk_at "wkn"; exact h1 e
  · walk_at "wkn"; exact h2 e
theorem w_check_round_v {r : RK} {T : Tk} {d : D} {k : KD} (hd : VOk d) (h1 : isRd d = true → k .non T) (h2 : isRd d = false → r ⟨"InvalidRound", some ("given", d)⟩ T) : se_check_round r [.val d] T k := by
  rw [ex_check_round, b_check_round]
  walk_at "wkn"
  refine w_is_round_v hd ?_
  walk_at "wkn"
  refine iteB_of (fun e => ?_) (fun e => ?_)
  · walk_at "wkn"; exact h1 e
  · walk_at "wkn"; exact h2 e
/-- a small thing -/
structure El (x : D) : Prop where
  ok : okN 3 x
  lt : x.lite
  bk : x.py.bulk ≤ 100
  dp : x.py.depth ≤ 2
  sz : ∀ i, x = .int i → Sz 100 i
theorem el_int {i : Int} (h : Sz 100 i) : El (.int i) := ⟨by simp only [okN], h.lite (by decide), Nat.zero_le _, Nat.zero_le _, fun j e => by cases e; exact h⟩
theorem el_non : El .non := ⟨by simp only [okN], by simp only [D.lite], Nat.zero_le _, Nat.zero_le _, fun _ e => nomatch e⟩
theorem el_bl {b : Bool} : El (.bl b) := ⟨by simp only [okN], by simp only [D.lite], Nat.zero_le _, Nat.zero_le _, fun _ e => nomatch e⟩
theorem el_str {w : Str} (h1 : okN 3 (.str w)) (h : (D.str w).lite) (hb : (D.str w).py.bulk ≤ 100) : El (.str w) := ⟨h1, h, hb, Nat.zero_le _, fun _ e => nomatch e⟩
/-- what can be shown -/
def Gv (d : D) : Prop := (d.lite ∧ d.py.bulk ≤ 2000 ∧ d.py.depth ≤ 10) ∨ d = .dct [] []
theorem gv_shows {d : D} {w : Str} (h : Gv d) (hw : (D.str w).lite) (hb : (D.str w).py.bulk ≤ 1000) (he : (PyData.list [.str w, .dict []]).showable = true ∧ (PyData.list [.str w, .dict []]).shown.length ≤ sizeLine) : D.shOk (.lst [.str w, d]) ∨ ReprE [.str w, d] := by
  rcases h with ⟨h1, h2, h3⟩ | rfl
  · left
    have e1 : (D.lst [.str w, d]).py.bulk = (D.str w).py.bulk + 1 + (d.py.bulk + 1 + 0) := by simp only [D.py, D.pyL, PyData.bulk, PyData.bulkAll]
    have e2 : (D.lst [.str w, d]).py.depth = max 0 (max d.py.depth 0) + 1 := by simp only [D.py, D.pyL, PyData.depth, PyData.depthAll]
    exact lite_shOk (lite_lst (liteL_cons hw (liteL_cons h1 (by simp only [D.liteL])))) (by omega) (by omega)
  · exact .inr ⟨w, rfl, he.1, he.2⟩
/-- a thing of any kind, to be given to a call -/
structure Th (d : D) : Prop where
  vok : VOk d
  gv : Gv d
theorem el_all : ∀ {xs : List D} {n : Nat}, xs.length ≤ n → (∀ x ∈ xs, El x) → D.liteL xs ∧ PyData.bulkAll (D.pyL xs) ≤ n * 101 ∧ PyData.depthAll (D.pyL xs) ≤ 2
  | [], n, _, _ => ⟨by simp only [D.liteL], by simp [D.pyL, PyData.bulkAll], by simp [D.pyL, PyData.depthAll]⟩
  | x :: xs, n, hl, h => by
    have e := h x List.mem_cons_self
    rw [List.length_cons] at hl
    obtain ⟨h1, h2, h3⟩ := el_all (n := n - 1) (by omega) fun y hy => h y (List.mem_cons_of_mem _ hy)
    have a := e.bk
    have b := e.dp
    refine ⟨liteL_cons e.lt h1, ?_, ?_⟩
    · simp only [D.pyL, PyData.bulkAll]
      have : n * 101 = (n - 1) * 101 + 101 := by
        have : n = (n - 1) + 1 := by omega
        omega
      omega
    · simp only [D.pyL, PyData.depthAll]
      omega
theorem th_tup {xs : List D} (hl : xs.length ≤ 10) (h : ∀ x ∈ xs, El x) : Th (.tup xs) := by
  obtain ⟨h1, h2, h3⟩ := el_all hl h
  refine ⟨⟨trivial, fun ys e => by cases e; omega, fun ys e => by cases e; exact fun x hx => (h x hx).ok, fun ys e => by cases e; exact fun i hi => (h _ hi).sz i rfl⟩, .inl ⟨lite_tup h1, ?_, ?_⟩⟩
  · show PyData.bulkAll (D.pyL xs) ≤ 2000
    omega
  · show PyData.depthAll (D.pyL xs) + 1 ≤ 10
    omega
theorem th_no {d : D} (h : Pln d) (n : ∀ xs, d ≠ .tup xs) (g : Gv d) : Th d := ⟨⟨h, fun xs e => absurd e (n xs), fun xs e => absurd e (n xs), fun xs e => absurd e (n xs)⟩, g⟩
theorem th_lst {xs : List D} (hl : xs.length ≤ 10) (h : ∀ x ∈ xs, El x) : Th (.lst xs) := by
  obtain ⟨h1, h2, h3⟩ := el_all hl h
  refine th_no trivial (fun _ e => nomatch e) (.inl ⟨lite_lst h1, ?_, ?_⟩)
  · show PyData.bulkAll (D.pyL xs) ≤ 2000
    omega
  · show PyData.depthAll (D.pyL xs) + 1 ≤ 10
    omega
theorem th_el {x : D} (h : El x) (n : ∀ xs, x ≠ .tup xs) : Th x := th_no (okN_pln h.ok) n (.inl ⟨h.lt, Nat.le_trans h.bk (by decide), Nat.le_trans h.dp (by decide)⟩)
theorem th_dct : Th (.dct [] []) := th_no trivial (fun _ e => nomatch e) (.inr rfl)
theorem th_non : Th .non := th_el el_non fun _ e => nomatch e
theorem th_bl {b : Bool} : Th (.bl b) := th_el el_bl fun _ e => nomatch e
theorem th_int {i : Int} (h : Sz 100 i) : Th (.int i) := th_el (el_int h) fun _ e => nomatch e
theorem th_row {r : R4} {n : Nat} (h : S4 n r) (hn : n ≤ 100) : Th (rV r) := th_tup (by simp) fun x hx => by
  simp only [List.mem_cons, List.not_mem_nil, or_false] at hx
  rcases hx with rfl | rfl | rfl | rfl
  · exact el_int (h.s1.mono hn)
  · exact el_int (h.s2.mono hn)
  · exact el_int (h.s3.mono hn)
  · exact el_int (h.s4.mono hn)
theorem th_pt {q : P3} {n : Nat} (h : Pt n q) (hn : n ≤ 100) : Th (pD q) := th_tup (by simp) fun x hx => by
  simp only [List.mem_cons, List.not_mem_nil, or_false] at hx
  rcases hx with rfl | rfl | rfl
  · exact el_int (h.s1.mono hn)
  · exact el_int (h.s2.mono hn)
  · exact el_int (h.s3.mono hn)
def Mp0 (d : D) : Prop := ∀ {T : Tk} {k : KD}, k (.bl false) T → sm_is_map [.val d] T k
theorem mp0_n5 {d : D} (pd : Pln d) (hl : ∀ xs, d = .tup xs → xs.length ≠ 5) : Mp0 d := fun h => w_is_map_n5 pd hl h
theorem fm_two {n : Nat} {m : G4} (h : Fm n (⟨2, 0⟩, ⟨0, 0⟩, ⟨0, 0⟩, ⟨2, 0⟩) m) : m ≠ (⟨2, 0⟩, ⟨0, 0⟩, ⟨0, 0⟩, ⟨2, 0⟩) := fun e => by
  obtain ⟨u, v, w, t, q⟩ := h.mp.bez
  rw [e] at q
  have q1 : (u.re * 2 - u.im * 0) + (v.re * 0 - v.im * 0) + (w.re * 0 - w.im * 0) + (t.re * 2 - t.im * 0) = 1 := congrArg Gi.re q
  omega
theorem fm_i {n : Nat} {m : G4} (h : Fm n (⟨0, 1⟩, ⟨0, 0⟩, ⟨0, 0⟩, ⟨1, 0⟩) m) : m ≠ (⟨0, 1⟩, ⟨0, 0⟩, ⟨0, 0⟩, ⟨1, 0⟩) := fun e => by
  have q := h.mp.qf
  rw [e] at q
  have q1 : (0 : Int) < (fst4 ((⟨0, 1⟩, ⟨0, 0⟩, ⟨0, 0⟩, ⟨1, 0⟩) : G4)).re := q.1
  exact absurd q1 (by decide)
theorem mp0_N {N : G4} (hN : N4 82 N) (d0 : dtG N ≠ 0) (no : ∀ m, Fm 82 N m → m ≠ N) : Mp0 (mD 0 N) := fun h => by
  obtain ⟨m, hm⟩ := fm_ex hN (dt_fst d0)
  refine w_is_map_g (.inl rfl) hN (by decide) d0 hm ?_
  rw [decide_eq_false (no m hm)]
  exact h
theorem szl {i : Int} (h : i.natAbs < 128) : Sz 100 i := Nat.lt_trans h (by decide)
theorem el_i {i : Int} (h : i.natAbs < 128) : El (.int i) := el_int (szl h)
theorem el_g {i j : Int} (h : Sz 100 i) (q : Sz 100 j) : El (.tup [.int i, .int j]) := ⟨by simp [okN, okL], lite_tup (liteL_cons (h.lite (by decide)) (liteL_cons (q.lite (by decide)) (by simp only [D.liteL]))), by simp [D.py, D.pyL, PyData.bulk, PyData.bulkAll], by simp [D.py, D.pyL, PyData.depth, PyData.depthAll], fun _ e => nomatch e⟩
structure Odd (d : D) : Prop where
  th : Th d
  cx : isW 2 d = false
  pl : isPl d = false
  rd : isRd d = false
  mp : Mp0 d
theorem odd_n5 {d : D} (th : Th d) (hl : ∀ xs, d = .tup xs → xs.length ≠ 5) (h : (isW 2 d || isPl d || isRd d) = false) : Odd d := by
  simp only [Bool.or_eq_false_iff] at h
  exact ⟨th, h.1.1, h.1.2, h.2, mp0_n5 th.vok.pln hl⟩
theorem odd_5 {a b c e f : D} (th : Th (.tup [a, b, c, e, f])) (mp : Mp0 (.tup [a, b, c, e, f])) : Odd (.tup [a, b, c, e, f]) := by
  have no : ∀ n : Int, (((5 : Nat) : Int) ≠ n) → isW n (.tup [a, b, c, e, f]) = false := fun n h => by
    show (decide ((([a, b, c, e, f].length : Nat) : Int) = n) && [a, b, c, e, f].all isI) = false
    rw [show decide ((([a, b, c, e, f].length : Nat) : Int) = n) = false from decide_eq_false h, Bool.false_and]
  refine ⟨th, ?_, ?_, ?_, mp⟩
  · exact no 2 (by decide)
  · exact isPl_no (no 3 (by decide))
  · unfold isRd; rw [isRw_no (no 4 (by decide)), Bool.false_and]
theorem w__law_oddT {T : Tk} {k : KD} (hT : TkOk T) (h : ∀ d T', Odd d → TkOk T' → k d T') : sm__law_odd [.tank] T k := by
  rw [e__law_odd, b__law_odd]
  walk_at "wkn"
  refine w__law_pick hT (by simp) (by simp) fun x T1 hx hT1 => ?_
  simp only [List.mem_cons, List.not_mem_nil, or_false] at hx
  refine h x T1 ?_ hT1
  have tp : ∀ {xs : List D}, xs.length ≤ 10 → (∀ x ∈ xs, El x) → Th (.tup xs) := fun a b => th_tup a b
  have nt : ∀ {d : D}, (∀ xs, d ≠ .tup xs) → ∀ xs, d = .tup xs → xs.length ≠ 5 := fun n xs e => absurd e (n xs)
  have e0 : El (.str "0") := el_str (by simp only [okN]; decide +kernel) (by simp only [D.lite]; decide +kernel) (by decide +kernel)
  have g : ∀ {i j : Int}, i.natAbs < 128 → j.natAbs < 128 → El (.tup [.int i, .int j]) := fun a b => el_g (szl a) (szl b)
  have nz : ∀ {a b : Int}, a.natAbs < 4 → b.natAbs < 4 → Nz 82 ⟨a, b⟩ := fun x y => (nz_of (n := 2) (by unfold Sz; omega) (by unfold Sz; omega)).mono (by decide)
  rcases hx with rfl | rfl | rfl | rfl | rfl | rfl | rfl | rfl | rfl | rfl | rfl | rfl | rfl | rfl | rfl | rfl | rfl | rfl | rfl | rfl | rfl | rfl | rfl
  · exact odd_n5 th_non (nt fun _ e => nomatch e) rfl
  · exact odd_n5 (th_el e0 fun _ e => nomatch e) (nt fun _ e => nomatch e) rfl
  · exact odd_n5 (th_int (szl (by decide))) (nt fun _ e => nomatch e) rfl
  · exact odd_n5 (th_int (szl (by decide))) (nt fun _ e => nomatch e) rfl
  · exact odd_n5 th_bl (nt fun _ e => nomatch e) rfl
  · exact odd_n5 th_bl (nt fun _ e => nomatch e) rfl
  · exact odd_n5 (tp (by simp) (by simp)) (fun xs e => by cases e; decide) rfl
  · exact odd_n5 (tp (by simp) (by simp [el_i])) (fun xs e => by cases e; decide) (by decide +kernel)
  · exact odd_n5 (tp (by simp) (by simp [el_i, el_non])) (fun xs e => by cases e; decide) (by decide +kernel)
  · exact odd_n5 (th_lst (by simp) (by simp [el_i])) (nt fun _ e => nomatch e) rfl
  · exact odd_n5 (tp (by simp) (by simp [el_i, el_bl])) (fun xs e => by cases e; decide) (by decide +kernel)
  · exact odd_n5 (tp (by simp) (by simp [el_i])) (fun xs e => by cases e; decide) (by decide +kernel)
  · exact odd_n5 (tp (by simp) (by simp [el_i])) (fun xs e => by cases e; decide) (by decide +kernel)
  · exact odd_n5 (tp (by simp) (by simp [el_i])) (fun xs e => by cases e; decide) (by decide +kernel)
  · exact odd_n5 (tp (by simp) (by simp [el_i])) (fun xs e => by cases e; decide) (by decide +kernel)
  · exact odd_n5 (tp (by simp) (by simp [el_i])) (fun xs e => by cases e; decide) (by decide +kernel)
  · exact odd_n5 (tp (by simp) (by simp [el_i])) (fun xs e => by cases e; decide) (by decide +kernel)
  · exact odd_5 (tp (by simp) (by simp [el_i, g])) (mp0_N (N := (⟨2, 0⟩, ⟨0, 0⟩, ⟨0, 0⟩, ⟨2, 0⟩)) ⟨nz (by decide) (by decide), nz (by decide) (by decide), nz (by decide) (by decide), nz (by decide) (by decide)⟩ (by decide) fun _ h => fm_two h)
  · exact odd_n5 th_dct (nt fun _ e => nomatch e) rfl
  · refine odd_5 (tp (by simp) (by simp [el_i])) fun h => w_is_map_odd (.inr rfl) ?_ (by simp [okN]) ⟨.int 2, by simp, rfl⟩ h
    intro y hy
    simp only [List.mem_cons, List.not_mem_nil, or_false] at hy
    rcases hy with rfl | rfl | rfl | rfl
    all_goals exact (th_int (szl (by decide))).vok
  · exact odd_5 (tp (by simp) (by simp [el_i, g])) (mp0_N (N := (⟨0, 1⟩, ⟨0, 0⟩, ⟨0, 0⟩, ⟨1, 0⟩)) ⟨nz (by decide) (by decide), nz (by decide) (by decide), nz (by decide) (by decide), nz (by decide) (by decide)⟩ (by decide) fun _ h => fm_i h)
  · exact odd_5 (tp (by simp) (by simp [el_i, g])) fun h => w_is_map_flag (.inl rfl) h
  · exact odd_n5 (th_lst (by simp) (by simp [el_i])) (nt fun _ e => nomatch e) rfl

theorem h_tryA {mt : Str → Option Bool} {i : Nat} {b : RX → dS} {s : ExD → Addr → Option Addr → dS} {K : dEnds} {ρ : En} {T : Tk} : sTryA mt i b s K ρ T = b (fun e ρ' T' => mt e.nm = some true ∧ ∀ a dd, s e a (e.arg.map fun _ => dd) (outA i K) (ρ'.set i (some (.exc a (e.arg.map fun x => (dd, x.1, x.2))))) T') K ρ T := rfl
theorem ite_p3 {x y : P3} {p q : Prop} (h1 : x = y → p) (h2 : x ≠ y → q) : iteB (decide (x.1 = y.1) && (decide (x.2.1 = y.2.1) && decide (x.2.2 = y.2.2))) p q := by
  refine iteB_of (fun e => h1 ?_) (fun e => h2 fun z => ?_)
  · simp only [Bool.and_eq_true, decide_eq_true_eq] at e
    exact Prod.ext e.1 (Prod.ext e.2.1 e.2.2)
  · subst z
    simp at e
theorem ite_p3o {x y z : P3} {p q : Prop} (h1 : x = z ∨ y = z → p) (h2 : x ≠ z → y ≠ z → q) : iteB ((decide (x.1 = z.1) && (decide (x.2.1 = z.2.1) && decide (x.2.2 = z.2.2))) || (decide (y.1 = z.1) && (decide (y.2.1 = z.2.1) && decide (y.2.2 = z.2.2)))) p q := by
  refine iteB_of (fun e => h1 ?_) (fun e => h2 (fun w => ?_) (fun w => ?_))
  · simp only [Bool.or_eq_true, Bool.and_eq_true, decide_eq_true_eq] at e
    exact e.imp (fun e => Prod.ext e.1 (Prod.ext e.2.1 e.2.2)) (fun e => Prod.ext e.1 (Prod.ext e.2.1 e.2.2))
  · subst w
    simp at e
  · subst w
    simp at e
theorem pD_eq {x y : P3} (h : pD x = pD y) : x = y := by
  simp only [pD, D.tup.injEq, List.cons.injEq, D.int.injEq, and_true] at h
  exact Prod.ext h.1 (Prod.ext h.2.1 h.2.2)
theorem ite_p3t {x y w z : P3} {p q : Prop} (h1 : x = z ∨ y = z ∨ w = z → p) (h2 : x ≠ z → y ≠ z → w ≠ z → q) : iteB ((decide (x.1 = z.1) && (decide (x.2.1 = z.2.1) && decide (x.2.2 = z.2.2))) || ((decide (y.1 = z.1) && (decide (y.2.1 = z.2.1) && decide (y.2.2 = z.2.2))) || (decide (w.1 = z.1) && (decide (w.2.1 = z.2.1) && decide (w.2.2 = z.2.2))))) p q := by
  refine iteB_of (fun e => h1 ?_) (fun e => h2 (fun w => ?_) (fun w => ?_) (fun w => ?_))
  · simp only [Bool.or_eq_true, Bool.and_eq_true, decide_eq_true_eq] at e
    exact e.imp (fun e => Prod.ext e.1 (Prod.ext e.2.1 e.2.2)) (fun e => e.imp (fun e => Prod.ext e.1 (Prod.ext e.2.1 e.2.2)) (fun e => Prod.ext e.1 (Prod.ext e.2.1 e.2.2)))
  all_goals
    subst w
    simp at e

theorem w_check_complex_v {r : RK} {T : Tk} {d : D} {k : KD} (hd : VOk d) (h1 : isW 2 d = true → k .non T) (h2 : isW 2 d = false → r ⟨"InvalidComplex", some ("given", d)⟩ T) : se_check_complex r [.val d] T k := by
  rw [ex_check_complex, b_check_complex]
  walk_at "wkn"
  refine w_is_complex_v hd ?_
  walk_at "wkn"
  refine iteB_of (fun e => ?_) (fun e => ?_)
  · walk_at "wkn"; exact h1 e
  · walk_at "wkn"; exact h2 e
inductive Ch : D → Bool → Prop
  | no {d : D} : Mp0 d → Ch d false
  | yes {f : Int} {m : G4} : Mq 82 f m → Ch (mD f m) true
theorem w_check_map_n {r : RK} {T : Tk} {d : D} {k : KD} (m : Mp0 d) (h : r ⟨"InvalidMap", some ("given", d)⟩ T) : se_check_map r [.val d] T k := by
  rw [ex_check_map, b_check_map]
  walk_at "wkn"
  refine m ?_
  walk_at "wkn"
  exact h
def noG (d : D) : Prop := d = .bl true ∨ d = .bl false ∨ d = .int 2 ∨ d = .int (-1) ∨ d = .non ∨ d = .str "1" ∨ d = .tup [.int 0]
theorem w_is_flag_n {T : Tk} {d : D} {k : KD} (hd : noG d) (h : k (.bl false) T) : sm_is_flag [.val d] T k := by
  rw [e_is_flag, b_is_flag]
  rcases hd with rfl | rfl | rfl | rfl | rfl | rfl | rfl
  all_goals
    walk_at "wkn"
    refine w_is_whole_v trivial ?_
    simp only [isI]
    walk_at "wkn"
    exact h
theorem w_map_of_n {r : RK} {T : Tk} {x y1 y2 y3 y4 : D} {k : KD} (hx : noG x) (h : r ⟨"InvalidFlag", some ("given", x)⟩ T) : se_map_of r [.val x, .val y1, .val y2, .val y3, .val y4] T k := by
  rw [ex_map_of, b_map_of]
  walk_at "wkn"
  refine w_is_flag_n hx ?_
  walk_at "wkn"
  exact h
theorem gi_of {d : D} (hd : VOk d) (h : isW 2 d = true) : ∃ g : Gi, d = gD g ∧ Nz 202 g := by
  obtain ⟨a, b, rfl⟩ := isW_2 h
  have s := hd.sz _ rfl
  exact ⟨⟨a, b⟩, rfl, nz_of (s a (by simp)) (s b (by simp))⟩
theorem w_map_of_v {r : RK} {T : Tk} {f : Int} {y1 y2 y3 y4 : D} {k : KD} (hf : f = 0 ∨ f = 1) (v1 : VOk y1) (v2 : VOk y2) (v3 : VOk y3) (v4 : VOk y4)
    (b1 : isW 2 y1 = false → r ⟨"InvalidComplex", some ("given", y1)⟩ T) (b2 : isW 2 y1 = true → isW 2 y2 = false → r ⟨"InvalidComplex", some ("given", y2)⟩ T)
    (b3 : isW 2 y1 = true → isW 2 y2 = true → isW 2 y3 = false → r ⟨"InvalidComplex", some ("given", y3)⟩ T) (b4 : isW 2 y1 = true → isW 2 y2 = true → isW 2 y3 = true → isW 2 y4 = false → r ⟨"InvalidComplex", some ("given", y4)⟩ T)
    (h : ∀ N : G4, y1 = gD N.1 → y2 = gD N.2.1 → y3 = gD N.2.2.1 → y4 = gD N.2.2.2 → (dtG N = 0 → r ⟨"NoMap", none⟩ T) ∧ (dtG N ≠ 0 → ∀ y, k y T)) : se_map_of r [.val (.int f), .val y1, .val y2, .val y3, .val y4] T k := by
  rw [ex_map_of, b_map_of, k_ZERO]
  walk_at "wkn"
  refine w_is_flag hf ?_
  walk_at "wk"
  refine w_check_complex_v v1 (fun e1 => ?_) (fun e => b1 e)
  walk_at "wk"
  refine w_check_complex_v v2 (fun e2 => ?_) (fun e => b2 e1 e)
  walk_at "wk"
  refine w_check_complex_v v3 (fun e3 => ?_) (fun e => b3 e1 e2 e)
  walk_at "wk"
  refine w_check_complex_v v4 (fun e4 => ?_) (fun e => b4 e1 e2 e3 e)
  obtain ⟨g1, rfl, n1⟩ := gi_of v1 e1
  obtain ⟨g2, rfl, n2⟩ := gi_of v2 e2
  obtain ⟨g3, rfl, n3⟩ := gi_of v3 e3
  obtain ⟨g4, rfl, n4⟩ := gi_of v4 e4
  obtain ⟨h1, h2⟩ := h (g1, g2, g3, g4) rfl rfl rfl rfl
  walk_at "wkn"
  refine w_determinant (m := (g1, g2, g3, g4)) n1 n2 n3 n4 (by decide) ?_
  walk_at "wkn"
  rw [dec_gi]
  refine iteB_of (fun e => ?_) (fun e => ?_)
  · walk_at "wkn"
    exact h1 (of_decide_eq_true e)
  · have d0 := of_decide_eq_false e
    walk_at "wkn"
    exact w_form_of (N := (g1, g2, g3, g4)) (NS := .tup [gD g1, gD g2, gD g3, gD g4]) rfl n1 n2 n3 n4 (by decide) (dt_fst d0) fun m _ => h2 d0 _
theorem w_led_place_v {r : RK} {T : Tk} {d p : D} {b : Bool} {k : KD} (hc : Ch d b) (hp : VOk p) (h1 : b = true → isPl p = true → ∀ y, k y T) (h2 : b = false → r ⟨"InvalidMap", some ("given", d)⟩ T)
    (h3 : b = true → isPl p = false → r ⟨"InvalidPlace", some ("given", p)⟩ T) : se_led_place r [.val d, .val p] T k := by
  rw [ex_led_place, b_led_place]
  walk_at "wkn"
  cases hc with
  | no m => exact w_check_map_n m (h2 rfl)
  | yes hm =>
    refine w_check_map hm (by decide) ?_
    walk_at "wkn"
    refine w_check_place_v hp (fun e => ?_) (fun e => h3 rfl e)
    obtain ⟨q, rfl, hq⟩ := isPl_of hp e
    walk_at "wkn"
    exact w_led_by hm hq (by decide) fun t _ => h1 rfl e _
theorem w_led_round_v {r : RK} {T : Tk} {d p : D} {b : Bool} {k : KD} (hc : Ch d b) (hp : VOk p) (h1 : b = true → isRd p = true → ∀ x : R4, k (rV x) T) (h2 : b = false → r ⟨"InvalidMap", some ("given", d)⟩ T)
    (h3 : b = true → isRd p = false → r ⟨"InvalidRound", some ("given", p)⟩ T) : se_led_round r [.val d, .val p] T k := by
  cases hc with
  | no m =>
    rw [ex_led_round, b_led_round]
    walk_at "wkn"
    exact w_check_map_n m (h2 rfl)
  | yes hm =>
    cases e : isRd p with
    | true =>
      obtain ⟨x, rfl, hx⟩ := isRd_of hp e
      exact w_led_round hm hx (by decide) fun t _ => h1 rfl e t
    | false =>
      rw [ex_led_round, b_led_round]
      walk_at "wkn"
      refine w_check_map hm (by decide) ?_
      walk_at "wkn"
      exact w_check_round_v hp (fun e2 => absurd (e2.symm.trans e) (by decide)) (fun e => h3 rfl e)
theorem w_is_straight_v {r : RK} {T : Tk} {d p : D} {b : Bool} {k : KD} (hc : Ch d b) (hp : VOk p) (h1 : b = true → isRd p = true → ∀ y, k y T) (h2 : b = false → r ⟨"InvalidMap", some ("given", d)⟩ T)
    (h3 : b = true → isRd p = false → r ⟨"InvalidRound", some ("given", p)⟩ T) : se_is_straight r [.val d, .val p] T k := by
  rw [ex_is_straight, b_is_straight]
  walk_at "wkn"
  refine w_led_round_v hc hp (fun e1 e2 x => ?_) h2 h3
  walk_at "wkn"
  exact h1 e1 e2 _
theorem w_after_v {r : RK} {T : Tk} {d p : D} {b c : Bool} {k : KD} (hc : Ch d b) (hp : Ch p c) (h1 : b = true → c = true → ∀ y, k y T) (h2 : b = false → r ⟨"InvalidMap", some ("given", d)⟩ T)
    (h3 : b = true → c = false → r ⟨"InvalidMap", some ("given", p)⟩ T) : se_after r [.val d, .val p] T k := by
  rw [ex_after, b_after]
  walk_at "wkn"
  cases hc with
  | no m => exact w_check_map_n m (h2 rfl)
  | yes hm =>
    refine w_check_map hm (by decide) ?_
    walk_at "wkn"
    cases hp with
    | no m => exact w_check_map_n m (h3 rfl rfl)
    | yes hm' =>
      refine w_check_map hm' (by decide) ?_
      walk_at "wkn"
      exact w_joined hm hm' (by decide) fun x _ => h1 rfl rfl _
theorem w_back_v {r : RK} {T : Tk} {d : D} {b : Bool} {k : KD} (hc : Ch d b) (h1 : b = true → ∀ y, k y T) (h2 : b = false → r ⟨"InvalidMap", some ("given", d)⟩ T) : se_back r [.val d] T k := by
  rw [ex_back, b_back]
  walk_at "wkn"
  cases hc with
  | no m => exact w_check_map_n m (h2 rfl)
  | yes hm =>
    refine w_check_map hm (by decide) ?_
    walk_at "wkn"
    exact w_way_back hm (by decide) fun x _ => h1 rfl _
theorem w_mirror_in_v {r : RK} {T : Tk} {d : D} {k : KD} (hd : VOk d) (h1 : isRd d = true → ∀ y, k y T) (h2 : isRd d = false → r ⟨"InvalidRound", some ("given", d)⟩ T) : se_mirror_in r [.val d] T k := by
  rw [ex_mirror_in, b_mirror_in]
  walk_at "wkn"
  refine w_check_round_v hd (fun e => ?_) (fun e => h2 e)
  obtain ⟨x, rfl, hx⟩ := isRd_of hd e
  walk_at "wkn"
  exact w_mirror_of hx (by decide) fun m _ => h1 e _
theorem w_is_place_n {T : Tk} {d : D} {k : KD} (hd : VOk d) (e : isPl d = false) (h : k (.bl false) T) : sm_is_place [.val d] T k := w_is_place_v hd (by rw [e]; exact h)
/-- a triple is checked: what is raised, with the index -/
def Tr (v : D) (i : D) : Prop := ∀ {r : RK} {T : Tk} {k : KD}, r ⟨"InvalidTriple", some ("index", i)⟩ T → se_check_triple r [.val v] T k
theorem tr_no {v : D} (pd : Pln v) (n : ∀ xs, v ≠ .tup xs) : Tr v .non := fun h0 => by
  rw [ex_check_triple, b_check_triple]
  cases v with
  | obj _ _ _ => exact pd.elim
  | ref _ => exact pd.elim
  | tup xs => exact absurd rfl (n xs)
  | bl b => walk_at "wkn"; exact h0
  | int i => walk_at "wkn"; exact h0
  | non => walk_at "wkn"; exact h0
  | str s => walk_at "wkn"; exact h0
  | lst s => walk_at "wkn"; exact h0
  | scr s => walk_at "wkn"; exact h0
  | dct s t => walk_at "wkn"; exact h0
theorem ea3 (u v : P3) : (decide (u.1 = v.1) && (decide (u.2.1 = v.2.1) && decide (u.2.2 = v.2.2))) = decide (u = v) := by
  obtain ⟨u1, u2, u3⟩ := u
  obtain ⟨v1, v2, v3⟩ := v
  simp only [Prod.mk.injEq, Bool.decide_and]
theorem tr_0 {x : D} {rest : List D} (hl : rest.length ≤ 100) (hx : VOk x) (e : isPl x = false) : Tr (.tup (x :: rest)) (.int 0) := fun h0 => by
  rw [ex_check_triple, b_check_triple, k_MANY]
  walk_at "wk"
  refine ⟨by omega, ?_⟩
  refine w_is_place_n hx e ?_
  walk_at "wk"
  exact h0
theorem tr_1 {p : P3} {x : D} {rest : List D} (hp : Pt 40 p) (hl : rest.length ≤ 100) (hx : VOk x) (e : isPl x = false ∨ x = pD p) : Tr (.tup (pD p :: x :: rest)) (.int 1) := fun h0 => by
  rw [ex_check_triple, b_check_triple, k_MANY]
  walk_at "wk"
  refine ⟨by omega, ?_⟩
  refine w_is_place_pt hp ?_
  walk_at "wk"
  rcases e with e | rfl
  · refine w_is_place_n hx e ?_
    walk_at "wk"
    exact h0
  · refine w_is_place_pt hp ?_
    walk_at "wk"
    try rw [ea3, decide_eq_true rfl]
    walk_at "wk"
    exact h0
theorem tr_2 {p q : P3} {x : D} {rest : List D} (hp : Pt 40 p) (hq : Pt 40 q) (n : p ≠ q) (hl : rest.length ≤ 100) (hx : VOk x) (e : isPl x = false ∨ x = pD p ∨ x = pD q) : Tr (.tup (pD p :: pD q :: x :: rest)) (.int 2) := fun h0 => by
  rw [ex_check_triple, b_check_triple, k_MANY]
  walk_at "wk"
  refine ⟨by omega, ?_⟩
  refine w_is_place_pt hp ?_
  walk_at "wk"
  refine w_is_place_pt hq ?_
  walk_at "wk"
  rw [ea3, decide_eq_false n]
  walk_at "wk"
  rcases e with e | rfl | rfl
  · refine w_is_place_n hx e ?_
    walk_at "wk"
    exact h0
  · refine w_is_place_pt hp ?_
    walk_at "wk"
    try rw [ea3, ea3, decide_eq_true rfl]
    walk_at "wk"
    exact h0
  · refine w_is_place_pt hq ?_
    walk_at "wk"
    try rw [ea3, decide_eq_false n]
    walk_at "wk"
    exact h0
theorem tr_3 {p q s : P3} {x : D} {rest : List D} (hp : Pt 40 p) (hq : Pt 40 q) (hs : Pt 40 s) (pq : p ≠ q) (ps : p ≠ s) (qs : q ≠ s) (hl : rest.length ≤ 100) : Tr (.tup (pD p :: pD q :: pD s :: x :: rest)) (.int 3) := fun h0 => by
  rw [ex_check_triple, b_check_triple, k_MANY]
  walk_at "wk"
  refine ⟨by omega, ?_⟩
  refine w_is_place_pt hp ?_
  walk_at "wk"
  refine w_is_place_pt hq ?_
  walk_at "wk"
  rw [ea3, decide_eq_false pq]
  walk_at "wk"
  refine w_is_place_pt hs ?_
  walk_at "wk"
  rw [ea3, ea3, decide_eq_false ps, decide_eq_false qs]
  walk_at "wk"
  exact h0
theorem tr_s0 : Tr (.tup []) (.int 0) := fun h0 => by
  rw [ex_check_triple, b_check_triple, k_MANY]
  walk_at "wk"
  exact h0
theorem tr_s1 {p : P3} (hp : Pt 40 p) : Tr (.tup [pD p]) (.int 1) := fun h0 => by
  rw [ex_check_triple, b_check_triple, k_MANY]
  walk_at "wk"
  refine w_is_place_pt hp ?_
  walk_at "wk"
  exact h0
theorem tr_s2 {p q : P3} (hp : Pt 40 p) (hq : Pt 40 q) (n : p ≠ q) : Tr (.tup [pD p, pD q]) (.int 2) := fun h0 => by
  rw [ex_check_triple, b_check_triple, k_MANY]
  walk_at "wk"
  refine w_is_place_pt hp ?_
  walk_at "wk"
  refine w_is_place_pt hq ?_
  walk_at "wk"
  rw [ea3, decide_eq_false n]
  walk_at "wk"
  exact h0
inductive Tp : D → Option D → Prop
  | bad {v i : D} : Tr v i → Tp v (some i)
  | good {p q s : P3} : Pt 40 p → Pt 40 q → Pt 40 s → p ≠ q → p ≠ s → q ≠ s → Tp (.tup [pD p, pD q, pD s]) none
theorem w_plain_through_v {r : RK} {T : Tk} {v w : D} {a b : Option D} {k : KD} (h1 : Tp v a) (h2 : Tp w b) (g : a = none → b = none → ∀ y, k y T) (e1 : ∀ i, a = some i → r ⟨"InvalidTriple", some ("index", i)⟩ T)
    (e2 : a = none → ∀ i, b = some i → r ⟨"InvalidTriple", some ("index", i)⟩ T) : se_plain_through r [.val v, .val w] T k := by
  cases h1 with
  | bad t =>
    rw [ex_plain_through, b_plain_through]
    walk_at "wkn"
    exact t (e1 _ rfl)
  | good hp hq hs pq ps qs =>
    cases h2 with
    | bad t =>
      rw [ex_plain_through, b_plain_through]
      walk_at "wkn"
      refine w_check_triple hp hq hs pq ps qs ?_
      walk_at "wkn"
      exact t (e2 rfl _ rfl)
    | good hp' hq' hs' pq' ps' qs' => exact w_plain_through hp hq hs pq ps qs hp' hq' hs' pq' ps' qs' (by decide) fun x _ _ => g rfl rfl _
theorem w_mirrored_through_v {r : RK} {T : Tk} {v w : D} {a b : Option D} {k : KD} (h1 : Tp v a) (h2 : Tp w b) (g : a = none → b = none → ∀ y, k y T) (e1 : ∀ i, a = some i → r ⟨"InvalidTriple", some ("index", i)⟩ T)
    (e2 : a = none → ∀ i, b = some i → r ⟨"InvalidTriple", some ("index", i)⟩ T) : se_mirrored_through r [.val v, .val w] T k := by
  cases h1 with
  | bad t =>
    rw [ex_mirrored_through, b_mirrored_through]
    walk_at "wkn"
    exact t (e1 _ rfl)
  | good hp hq hs pq ps qs =>
    cases h2 with
    | bad t =>
      rw [ex_mirrored_through, b_mirrored_through]
      walk_at "wkn"
      refine w_check_triple hp hq hs pq ps qs ?_
      walk_at "wkn"
      exact t (e2 rfl _ rfl)
    | good hp' hq' hs' pq' ps' qs' => exact w_mirrored_through hp hq hs pq ps qs hp' hq' hs' pq' ps' qs' (by decide) fun x _ _ => g rfl rfl _
/-- what check_apart comes to for four things -/
structure Ap4 (r : RK) (T : Tk) (u v w z : D) (K : Prop) : Prop where
  p1 : isPl u = false → r ⟨"InvalidPlace", some ("given", u)⟩ T
  p2 : isPl u = true → isPl v = false → r ⟨"InvalidPlace", some ("given", v)⟩ T
  p3 : isPl u = true → isPl v = true → isPl w = false → r ⟨"InvalidPlace", some ("given", w)⟩ T
  p4 : isPl u = true → isPl v = true → isPl w = true → isPl z = false → r ⟨"InvalidPlace", some ("given", z)⟩ T
  s1 : isPl u = true → isPl v = true → isPl w = true → isPl z = true → v = u → r ⟨"Same", some ("given", v)⟩ T
  s2 : isPl u = true → isPl v = true → isPl w = true → isPl z = true → v ≠ u → w = u ∨ w = v → r ⟨"Same", some ("given", w)⟩ T
  s3 : isPl u = true → isPl v = true → isPl w = true → isPl z = true → v ≠ u → w ≠ u → w ≠ v → z = u ∨ z = v ∨ z = w → r ⟨"Same", some ("given", z)⟩ T
  ok : isPl u = true → isPl v = true → isPl w = true → isPl z = true → v ≠ u → w ≠ u → w ≠ v → z ≠ u → z ≠ v → z ≠ w → K
theorem w_check_apart_v4 {r : RK} {T : Tk} {u v w z : D} {k : KD} (hu : VOk u) (hv : VOk v) (hw : VOk w) (hz : VOk z) (A : Ap4 r T u v w z (k .non T)) : se_check_apart r [.val (.tup [u, v, w, z])] T k := by
  rw [ex_check_apart, b_check_apart]
  walk_at "wk"
  refine w_check_place_v hu (fun e1 => ?_) (fun e => A.p1 e)
  walk_at "wk"
  refine w_check_place_v hv (fun e2 => ?_) (fun e => A.p2 e1 e)
  walk_at "wk"
  refine w_check_place_v hw (fun e3 => ?_) (fun e => A.p3 e1 e2 e)
  walk_at "wk"
  refine w_check_place_v hz (fun e4 => ?_) (fun e => A.p4 e1 e2 e3 e)
  have s1 := A.s1 e1 e2 e3 e4
  have s2 := A.s2 e1 e2 e3 e4
  have s3 := A.s3 e1 e2 e3 e4
  have ok := A.ok e1 e2 e3 e4
  clear A
  obtain ⟨a, rfl, ha⟩ := isPl_of hu e1
  obtain ⟨b, rfl, hb⟩ := isPl_of hv e2
  obtain ⟨c, rfl, hc⟩ := isPl_of hw e3
  obtain ⟨d, rfl, hd⟩ := isPl_of hz e4
  walk_at "wk"
  refine ite_p3 (fun e => ?_) (fun n1 => ?_)
  · walk_at "wk"
    exact s1 (by rw [e])
  walk_at "wk"
  have n1 : pD b ≠ pD a := fun e => n1 (pD_eq e).symm
  refine ite_p3o (fun e => ?_) (fun n2 n3 => ?_)
  · walk_at "wk"
    exact s2 n1 (e.imp (fun e => by rw [e]) (fun e => by rw [e]))
  walk_at "wk"
  have n2 : pD c ≠ pD a := fun e => n2 (pD_eq e).symm
  have n3 : pD c ≠ pD b := fun e => n3 (pD_eq e).symm
  refine ite_p3t (fun e => ?_) (fun n4 n5 n6 => ?_)
  · walk_at "wk"
    exact s3 n1 n2 n3 (e.imp (fun e => by rw [e]) (fun e => e.imp (fun e => by rw [e]) (fun e => by rw [e])))
  walk_at "wk"
  exact ok n1 n2 n3 (fun e => n4 (pD_eq e).symm) (fun e => n5 (pD_eq e).symm) (fun e => n6 (pD_eq e).symm)
theorem w_ratio_of_four_v {r : RK} {T : Tk} {u v w z : D} {k : KD} (hu : VOk u) (hv : VOk v) (hw : VOk w) (hz : VOk z) (A : Ap4 r T u v w z (∀ q : P3, k (pD q) T)) : se_ratio_of_four r [.val u, .val v, .val w, .val z] T k := by
  rw [ex_ratio_of_four, b_ratio_of_four]
  walk_at "wkn"
  refine w_check_apart_v4 hu hv hw hz ⟨A.p1, A.p2, A.p3, A.p4, A.s1, A.s2, A.s3, fun e1 e2 e3 e4 n1 n2 n3 n4 n5 n6 => ?_⟩
  have ok := A.ok e1 e2 e3 e4 n1 n2 n3 n4 n5 n6
  clear A
  obtain ⟨a, rfl, ha⟩ := isPl_of hu e1
  obtain ⟨b, rfl, hb⟩ := isPl_of hv e2
  obtain ⟨c, rfl, hc⟩ := isPl_of hw e3
  obtain ⟨d, rfl, hd⟩ := isPl_of hz e4
  walk_at "wkn"
  exact w_four_ratio (a := 100) ha hb hc hd (fun e => n2 (by rw [e])) (fun e => n5 (by rw [e])) (by decide) fun q _ => ok q
theorem w_on_one_round_v {r : RK} {T : Tk} {u v w z : D} {k : KD} (hu : VOk u) (hv : VOk v) (hw : VOk w) (hz : VOk z) (A : Ap4 r T u v w z (∀ y, k y T)) : se_on_one_round r [.val u, .val v, .val w, .val z] T k := by
  rw [ex_on_one_round, b_on_one_round]
  walk_at "wkn"
  refine w_ratio_of_four_v hu hv hw hz ⟨A.p1, A.p2, A.p3, A.p4, A.s1, A.s2, A.s3, fun e1 e2 e3 e4 n1 n2 n3 n4 n5 n6 q => ?_⟩
  walk_at "wkn"
  exact A.ok e1 e2 e3 e4 n1 n2 n3 n4 n5 n6 _

def RunL (way : Str) (s : D) : Prop := ∀ (r : RK) (T : Tk) (k : KD), (∀ y, k y T) → se__law_run r [.val (.str way), .val s] T k
def RunE (way : Str) (s : D) (nm : Str) (arg : Option (Str × D)) : Prop := ∀ (r : RK) (T : Tk) (k : KD), r ⟨nm, arg⟩ T → se__law_run r [.val (.str way), .val s] T k
def Kc (c : D) : Prop := ∃ (way : Str) (s : D) (w : Str) (g : D), c = .tup [.str way, s, .str w, g] ∧ (∀ {T : Tk} {k : KD}, k (.lst [.str w, g]) T → sm__law_met [.val (.str way), .val s] T k) ∧ (D.shOk (.lst [.str w, g]) ∨ ReprE [.str w, g])
theorem k_let {way : Str} {s : D} (run : RunL way s) : Kc (.tup [.str way, s, .str "let", .non]) := by
  refine ⟨way, s, "let", .non, rfl, fun h => ?_, gv_shows (.inl ⟨by simp only [D.lite], Nat.zero_le _, Nat.zero_le _⟩) (by simp only [D.lite]; decide +kernel) (by decide +kernel) (by decide +kernel)⟩
  rw [e__law_met, b__law_met]
  walk_at "wkn"
  rw [h_tryA]
  walk_at "wkn"
  refine run _ _ _ fun y => ?_
  walk_at "wkn"
  exact h
theorem k_flag {way : Str} {s g : D} (run : RunE way s "InvalidFlag" (some ("given", g))) (hg : Gv g) : Kc (.tup [.str way, s, .str "flag", g]) := by
  refine ⟨way, s, "flag", g, rfl, fun h => ?_, gv_shows hg (by simp only [D.lite]; decide +kernel) (by decide +kernel) (by decide +kernel)⟩
  rw [e__law_met, b__law_met]
  walk_at "wkn"
  rw [h_tryA]
  walk_at "wkn"
  refine run _ _ _ ⟨(by decide +kernel : mt_ArmError "InvalidFlag" = some true), fun a dd => ?_⟩
  iterate 13 ((try simp only [is_InvalidFlag_InvalidFlag, is_InvalidComplex_InvalidFlag, is_InvalidMap_InvalidFlag, is_InvalidPlace_InvalidFlag, is_InvalidRound_InvalidFlag, is_Same_InvalidFlag, is_InvalidTriple_InvalidFlag, is_NoMap_InvalidFlag, is_InvalidRow_InvalidFlag, is_InvalidNumbers_InvalidFlag, is_ValueError_InvalidFlag, gv_given_InvalidFlag]); walk_at "wk")
  exact h
theorem k_complex {way : Str} {s g : D} (run : RunE way s "InvalidComplex" (some ("given", g))) (hg : Gv g) : Kc (.tup [.str way, s, .str "complex", g]) := by
  refine ⟨way, s, "complex", g, rfl, fun h => ?_, gv_shows hg (by simp only [D.lite]; decide +kernel) (by decide +kernel) (by decide +kernel)⟩
  rw [e__law_met, b__law_met]
  walk_at "wkn"
  rw [h_tryA]
  walk_at "wkn"
  refine run _ _ _ ⟨(by decide +kernel : mt_ArmError "InvalidComplex" = some true), fun a dd => ?_⟩
  iterate 13 ((try simp only [is_InvalidFlag_InvalidComplex, is_InvalidComplex_InvalidComplex, is_InvalidMap_InvalidComplex, is_InvalidPlace_InvalidComplex, is_InvalidRound_InvalidComplex, is_Same_InvalidComplex, is_InvalidTriple_InvalidComplex, is_NoMap_InvalidComplex, is_InvalidRow_InvalidComplex, is_InvalidNumbers_InvalidComplex, is_ValueError_InvalidComplex, gv_given_InvalidComplex]); walk_at "wk")
  exact h
theorem k_map {way : Str} {s g : D} (run : RunE way s "InvalidMap" (some ("given", g))) (hg : Gv g) : Kc (.tup [.str way, s, .str "map", g]) := by
  refine ⟨way, s, "map", g, rfl, fun h => ?_, gv_shows hg (by simp only [D.lite]; decide +kernel) (by decide +kernel) (by decide +kernel)⟩
  rw [e__law_met, b__law_met]
  walk_at "wkn"
  rw [h_tryA]
  walk_at "wkn"
  refine run _ _ _ ⟨(by decide +kernel : mt_ArmError "InvalidMap" = some true), fun a dd => ?_⟩
  iterate 13 ((try simp only [is_InvalidFlag_InvalidMap, is_InvalidComplex_InvalidMap, is_InvalidMap_InvalidMap, is_InvalidPlace_InvalidMap, is_InvalidRound_InvalidMap, is_Same_InvalidMap, is_InvalidTriple_InvalidMap, is_NoMap_InvalidMap, is_InvalidRow_InvalidMap, is_InvalidNumbers_InvalidMap, is_ValueError_InvalidMap, gv_given_InvalidMap]); walk_at "wk")
  exact h
theorem k_place {way : Str} {s g : D} (run : RunE way s "InvalidPlace" (some ("given", g))) (hg : Gv g) : Kc (.tup [.str way, s, .str "place", g]) := by
  refine ⟨way, s, "place", g, rfl, fun h => ?_, gv_shows hg (by simp only [D.lite]; decide +kernel) (by decide +kernel) (by decide +kernel)⟩
  rw [e__law_met, b__law_met]
  walk_at "wkn"
  rw [h_tryA]
  walk_at "wkn"
  refine run _ _ _ ⟨(by decide +kernel : mt_ArmError "InvalidPlace" = some true), fun a dd => ?_⟩
  iterate 13 ((try simp only [is_InvalidFlag_InvalidPlace, is_InvalidComplex_InvalidPlace, is_InvalidMap_InvalidPlace, is_InvalidPlace_InvalidPlace, is_InvalidRound_InvalidPlace, is_Same_InvalidPlace, is_InvalidTriple_InvalidPlace, is_NoMap_InvalidPlace, is_InvalidRow_InvalidPlace, is_InvalidNumbers_InvalidPlace, is_ValueError_InvalidPlace, gv_given_InvalidPlace]); walk_at "wk")
  exact h
theorem k_round {way : Str} {s g : D} (run : RunE way s "InvalidRound" (some ("given", g))) (hg : Gv g) : Kc (.tup [.str way, s, .str "round", g]) := by
  refine ⟨way, s, "round", g, rfl, fun h => ?_, gv_shows hg (by simp only [D.lite]; decide +kernel) (by decide +kernel) (by decide +kernel)⟩
  rw [e__law_met, b__law_met]
  walk_at "wkn"
  rw [h_tryA]
  walk_at "wkn"
  refine run _ _ _ ⟨(by decide +kernel : mt_ArmError "InvalidRound" = some true), fun a dd => ?_⟩
  iterate 13 ((try simp only [is_InvalidFlag_InvalidRound, is_InvalidComplex_InvalidRound, is_InvalidMap_InvalidRound, is_InvalidPlace_InvalidRound, is_InvalidRound_InvalidRound, is_Same_InvalidRound, is_InvalidTriple_InvalidRound, is_NoMap_InvalidRound, is_InvalidRow_InvalidRound, is_InvalidNumbers_InvalidRound, is_ValueError_InvalidRound, gv_given_InvalidRound]); walk_at "wk")
  exact h
theorem k_same {way : Str} {s g : D} (run : RunE way s "Same" (some ("given", g))) (hg : Gv g) : Kc (.tup [.str way, s, .str "same", g]) := by
  refine ⟨way, s, "same", g, rfl, fun h => ?_, gv_shows hg (by simp only [D.lite]; decide +kernel) (by decide +kernel) (by decide +kernel)⟩
  rw [e__law_met, b__law_met]
  walk_at "wkn"
  rw [h_tryA]
  walk_at "wkn"
  refine run _ _ _ ⟨(by decide +kernel : mt_ArmError "Same" = some true), fun a dd => ?_⟩
  iterate 13 ((try simp only [is_InvalidFlag_Same, is_InvalidComplex_Same, is_InvalidMap_Same, is_InvalidPlace_Same, is_InvalidRound_Same, is_Same_Same, is_InvalidTriple_Same, is_NoMap_Same, is_InvalidRow_Same, is_InvalidNumbers_Same, is_ValueError_Same, gv_given_Same]); walk_at "wk")
  exact h
theorem k_triple {way : Str} {s g : D} (run : RunE way s "InvalidTriple" (some ("index", g))) (hg : Gv g) : Kc (.tup [.str way, s, .str "triple", g]) := by
  refine ⟨way, s, "triple", g, rfl, fun h => ?_, gv_shows hg (by simp only [D.lite]; decide +kernel) (by decide +kernel) (by decide +kernel)⟩
  rw [e__law_met, b__law_met]
  walk_at "wkn"
  rw [h_tryA]
  walk_at "wkn"
  refine run _ _ _ ⟨(by decide +kernel : mt_ArmError "InvalidTriple" = some true), fun a dd => ?_⟩
  iterate 13 ((try simp only [is_InvalidFlag_InvalidTriple, is_InvalidComplex_InvalidTriple, is_InvalidMap_InvalidTriple, is_InvalidPlace_InvalidTriple, is_InvalidRound_InvalidTriple, is_Same_InvalidTriple, is_InvalidTriple_InvalidTriple, is_NoMap_InvalidTriple, is_InvalidRow_InvalidTriple, is_InvalidNumbers_InvalidTriple, is_ValueError_InvalidTriple, gv_index_InvalidTriple]); walk_at "wk")
  exact h
theorem k_none {way : Str} {s : D} (run : RunE way s "NoMap" none) : Kc (.tup [.str way, s, .str "none", .non]) := by
  refine ⟨way, s, "none", .non, rfl, fun h => ?_, gv_shows (.inl ⟨by simp only [D.lite], Nat.zero_le _, Nat.zero_le _⟩) (by simp only [D.lite]; decide +kernel) (by decide +kernel) (by decide +kernel)⟩
  rw [e__law_met, b__law_met]
  walk_at "wkn"
  rw [h_tryA]
  walk_at "wkn"
  refine run _ _ _ ⟨(by decide +kernel : mt_ArmError "NoMap" = some true), fun a dd => ?_⟩
  iterate 13 ((try simp only [Option.map_none, is_InvalidFlag_NoMap, is_InvalidComplex_NoMap, is_InvalidMap_NoMap, is_InvalidPlace_NoMap, is_InvalidRound_NoMap, is_Same_NoMap, is_InvalidTriple_NoMap, is_NoMap_NoMap, is_InvalidRow_NoMap, is_InvalidNumbers_NoMap, is_ValueError_NoMap]); walk_at "wk")
  exact h
theorem cases_for {K : dEnds} (fin : ∀ T a b c d, K.nx [some .tank, a, b, c, d] T) :
    ∀ (cs : List D) (a b c d : Option SV) (T : Tk), (∀ c ∈ cs, Kc c) → forL (gTL 4 (gsCons (gN 1) (gsCons (gN 2) (gsCons (gN 3) (gsCons (gN 4) (gsNil)))))) (sIf (dTst (dOp (oF fNe) (dBlt (oG fReprE) (aCons (dCall 2 sm__law_met (aCons (dVar 1) (aCons (dVar 2) (aNil)))) (aNil))) (dBlt (oG fReprE) (aCons (dLst (aCons (dVar 3) (aCons (dVar 4) (aNil)))) (aNil))))) (sRet (dC (.bl false))) ((fun k ρ T => k.nx ρ T))) K cs [some .tank, a, b, c, d] T
  | [], a, b, c, d, T, _ => fin T a b c d
  | x :: xs, a, b, c, d, T, h => by
    have ih := cases_for fin xs
    obtain ⟨way, s, w, g, rfl, met, sh⟩ := h x List.mem_cons_self
    rw [forL_c]
    walk_at "wkn"
    refine met ?_
    walk_at "wkn"
    exact ⟨sh, sh, ih _ _ _ _ _ fun y hy => h y (List.mem_cons_of_mem _ hy)⟩
theorem fa {P : D → Prop} {a : D} {l : List D} (h : P a) (q : ∀ c ∈ l, P c) : ∀ c ∈ a :: l, P c := fun c hc => by
  rcases List.mem_cons.mp hc with rfl | hc
  · exact h
  · exact q c hc
theorem fa0 {P : D → Prop} : ∀ c ∈ ([] : List D), P c := fun _ hc => nomatch hc
theorem r_map_f {x a b c d : D} (hx : noG x) : RunE "map" (.tup [x, a, b, c, d]) "InvalidFlag" (some ("given", x)) := fun r T k h => by
  rw [ex__law_run, b__law_run]
  walk_at "wkn"
  repeat (refine iteB_n (by decide) ?_; walk_at "wkn")
  try (refine iteB_p (by decide) ?_; walk_at "wkn")
  exact w_map_of_n hx h
theorem cf {P : Prop} {b : Bool} (h1 : b = true) (h2 : b = false) : P := absurd (h1.symm.trans h2) (by decide)
theorem gD_isW {g : Gi} : isW 2 (gD g) = true := rfl
theorem r_map_1 {f : Int} {a b c d : D} (hf : f = 0 ∨ f = 1) (v1 : VOk a) (v2 : VOk b) (v3 : VOk c) (v4 : VOk d) (e : isW 2 a = false) : RunE "map" (.tup [.int f, a, b, c, d]) "InvalidComplex" (some ("given", a)) := fun r T k h => by
  rw [ex__law_run, b__law_run]
  walk_at "wkn"
  repeat (refine iteB_n (by decide) ?_; walk_at "wkn")
  try (refine iteB_p (by decide) ?_; walk_at "wkn")
  exact w_map_of_v hf v1 v2 v3 v4 (fun _ => h) (fun z _ => cf z e) (fun z _ _ => cf z e) (fun z _ _ _ => cf z e) (fun N z _ _ _ => cf gD_isW (z ▸ e))
theorem r_map_2 {f : Int} {a b c d : D} (hf : f = 0 ∨ f = 1) (v1 : VOk a) (v2 : VOk b) (v3 : VOk c) (v4 : VOk d) (e1 : isW 2 a = true) (e : isW 2 b = false) : RunE "map" (.tup [.int f, a, b, c, d]) "InvalidComplex" (some ("given", b)) := fun r T k h => by
  rw [ex__law_run, b__law_run]
  walk_at "wkn"
  repeat (refine iteB_n (by decide) ?_; walk_at "wkn")
  try (refine iteB_p (by decide) ?_; walk_at "wkn")
  exact w_map_of_v hf v1 v2 v3 v4 (fun z => cf e1 z) (fun _ _ => h) (fun _ z _ => cf z e) (fun _ z _ _ => cf z e) (fun N _ z _ _ => cf gD_isW (z ▸ e))
theorem r_map_3 {f : Int} {a b c d : D} (hf : f = 0 ∨ f = 1) (v1 : VOk a) (v2 : VOk b) (v3 : VOk c) (v4 : VOk d) (e1 : isW 2 a = true) (e2 : isW 2 b = true) (e : isW 2 c = false) : RunE "map" (.tup [.int f, a, b, c, d]) "InvalidComplex" (some ("given", c)) := fun r T k h => by
  rw [ex__law_run, b__law_run]
  walk_at "wkn"
  repeat (refine iteB_n (by decide) ?_; walk_at "wkn")
  try (refine iteB_p (by decide) ?_; walk_at "wkn")
  exact w_map_of_v hf v1 v2 v3 v4 (fun z => cf e1 z) (fun _ z => cf e2 z) (fun _ _ _ => h) (fun _ _ z _ => cf z e) (fun N _ _ z _ => cf gD_isW (z ▸ e))
theorem r_map_4 {f : Int} {a b c d : D} (hf : f = 0 ∨ f = 1) (v1 : VOk a) (v2 : VOk b) (v3 : VOk c) (v4 : VOk d) (e1 : isW 2 a = true) (e2 : isW 2 b = true) (e3 : isW 2 c = true) (e : isW 2 d = false) : RunE "map" (.tup [.int f, a, b, c, d]) "InvalidComplex" (some ("given", d)) := fun r T k h => by
  rw [ex__law_run, b__law_run]
  walk_at "wkn"
  repeat (refine iteB_n (by decide) ?_; walk_at "wkn")
  try (refine iteB_p (by decide) ?_; walk_at "wkn")
  exact w_map_of_v hf v1 v2 v3 v4 (fun z => cf e1 z) (fun _ z => cf e2 z) (fun _ _ z => cf e3 z) (fun _ _ _ _ => h) (fun N _ _ _ z => cf gD_isW (z ▸ e))
theorem gD_inj {a b : Gi} (h : gD a = gD b) : a = b := by
  simp only [gD, D.tup.injEq, List.cons.injEq, D.int.injEq, and_true] at h
  exact Gi.ext' h.1 h.2
theorem g4_of {N M : G4} (h1 : gD N.1 = gD M.1) (h2 : gD N.2.1 = gD M.2.1) (h3 : gD N.2.2.1 = gD M.2.2.1) (h4 : gD N.2.2.2 = gD M.2.2.2) : M = N := Prod.ext (gD_inj h1).symm (Prod.ext (gD_inj h2).symm (Prod.ext (gD_inj h3).symm (gD_inj h4).symm))
theorem r_map_d {f : Int} {N : G4} (hf : f = 0 ∨ f = 1) (v1 : VOk (gD N.1)) (v2 : VOk (gD N.2.1)) (v3 : VOk (gD N.2.2.1)) (v4 : VOk (gD N.2.2.2)) (d0 : dtG N = 0) : RunE "map" (.tup [.int f, gD N.1, gD N.2.1, gD N.2.2.1, gD N.2.2.2]) "NoMap" none := fun r T k h => by
  rw [ex__law_run, b__law_run]
  walk_at "wkn"
  repeat (refine iteB_n (by decide) ?_; walk_at "wkn")
  try (refine iteB_p (by decide) ?_; walk_at "wkn")
  exact w_map_of_v hf v1 v2 v3 v4 (fun z => cf gD_isW z) (fun _ z => cf gD_isW z) (fun _ _ z => cf gD_isW z) (fun _ _ _ z => cf gD_isW z) (fun M z1 z2 z3 z4 => ⟨fun _ => h, fun n => absurd (g4_of z1 z2 z3 z4 ▸ d0) n⟩)
theorem r_map_l {f : Int} {N : G4} (hf : f = 0 ∨ f = 1) (v1 : VOk (gD N.1)) (v2 : VOk (gD N.2.1)) (v3 : VOk (gD N.2.2.1)) (v4 : VOk (gD N.2.2.2)) (d0 : dtG N ≠ 0) : RunL "map" (.tup [.int f, gD N.1, gD N.2.1, gD N.2.2.1, gD N.2.2.2]) := fun r T k h => by
  rw [ex__law_run, b__law_run]
  walk_at "wkn"
  repeat (refine iteB_n (by decide) ?_; walk_at "wkn")
  try (refine iteB_p (by decide) ?_; walk_at "wkn")
  exact w_map_of_v hf v1 v2 v3 v4 (fun z => cf gD_isW z) (fun _ z => cf gD_isW z) (fun _ _ z => cf gD_isW z) (fun _ _ _ z => cf gD_isW z) (fun M z1 z2 z3 z4 => ⟨fun n => absurd n (g4_of z1 z2 z3 z4 ▸ d0), fun _ => h⟩)
theorem r_led_1 {d p : D} (hc : Ch d false) (hp : VOk p) : RunE "led" (.tup [d, p]) "InvalidMap" (some ("given", d)) := fun r T k h => by
  rw [ex__law_run, b__law_run]
  walk_at "wkn"
  repeat (refine iteB_n (by decide) ?_; walk_at "wkn")
  try (refine iteB_p (by decide) ?_; walk_at "wkn")
  exact w_led_place_v hc hp (fun z => nomatch z) (fun _ => h) (fun z => nomatch z)
theorem r_led_2 {d p : D} (hc : Ch d true) (hp : VOk p) (e : isPl p = false) : RunE "led" (.tup [d, p]) "InvalidPlace" (some ("given", p)) := fun r T k h => by
  rw [ex__law_run, b__law_run]
  walk_at "wkn"
  repeat (refine iteB_n (by decide) ?_; walk_at "wkn")
  try (refine iteB_p (by decide) ?_; walk_at "wkn")
  exact w_led_place_v hc hp (fun _ z => cf z e) (fun z => nomatch z) (fun _ _ => h)
theorem r_led_l {d p : D} (hc : Ch d true) (hp : VOk p) (e : isPl p = true) : RunL "led" (.tup [d, p]) := fun r T k h => by
  rw [ex__law_run, b__law_run]
  walk_at "wkn"
  repeat (refine iteB_n (by decide) ?_; walk_at "wkn")
  try (refine iteB_p (by decide) ?_; walk_at "wkn")
  exact w_led_place_v hc hp (fun _ _ => h) (fun z => nomatch z) (fun _ z => cf e z)
theorem r_round_1 {d p : D} (hc : Ch d false) (hp : VOk p) : RunE "round" (.tup [d, p]) "InvalidMap" (some ("given", d)) := fun r T k h => by
  rw [ex__law_run, b__law_run]
  walk_at "wkn"
  repeat (refine iteB_n (by decide) ?_; walk_at "wkn")
  try (refine iteB_p (by decide) ?_; walk_at "wkn")
  exact w_led_round_v hc hp (fun z => nomatch z) (fun _ => h) (fun z => nomatch z)
theorem r_round_2 {d p : D} (hc : Ch d true) (hp : VOk p) (e : isRd p = false) : RunE "round" (.tup [d, p]) "InvalidRound" (some ("given", p)) := fun r T k h => by
  rw [ex__law_run, b__law_run]
  walk_at "wkn"
  repeat (refine iteB_n (by decide) ?_; walk_at "wkn")
  try (refine iteB_p (by decide) ?_; walk_at "wkn")
  exact w_led_round_v hc hp (fun _ z => cf z e) (fun z => nomatch z) (fun _ _ => h)
theorem r_round_l {d p : D} (hc : Ch d true) (hp : VOk p) (e : isRd p = true) : RunL "round" (.tup [d, p]) := fun r T k h => by
  rw [ex__law_run, b__law_run]
  walk_at "wkn"
  repeat (refine iteB_n (by decide) ?_; walk_at "wkn")
  try (refine iteB_p (by decide) ?_; walk_at "wkn")
  exact w_led_round_v hc hp (fun _ _ x => h _) (fun z => nomatch z) (fun _ z => cf e z)
theorem r_straight_1 {d p : D} (hc : Ch d false) (hp : VOk p) : RunE "straight" (.tup [d, p]) "InvalidMap" (some ("given", d)) := fun r T k h => by
  rw [ex__law_run, b__law_run]
  walk_at "wkn"
  repeat (refine iteB_n (by decide) ?_; walk_at "wkn")
  try (refine iteB_p (by decide) ?_; walk_at "wkn")
  exact w_is_straight_v hc hp (fun z => nomatch z) (fun _ => h) (fun z => nomatch z)
theorem r_straight_2 {d p : D} (hc : Ch d true) (hp : VOk p) (e : isRd p = false) : RunE "straight" (.tup [d, p]) "InvalidRound" (some ("given", p)) := fun r T k h => by
  rw [ex__law_run, b__law_run]
  walk_at "wkn"
  repeat (refine iteB_n (by decide) ?_; walk_at "wkn")
  try (refine iteB_p (by decide) ?_; walk_at "wkn")
  exact w_is_straight_v hc hp (fun _ z => cf z e) (fun z => nomatch z) (fun _ _ => h)
theorem r_straight_l {d p : D} (hc : Ch d true) (hp : VOk p) (e : isRd p = true) : RunL "straight" (.tup [d, p]) := fun r T k h => by
  rw [ex__law_run, b__law_run]
  walk_at "wkn"
  repeat (refine iteB_n (by decide) ?_; walk_at "wkn")
  try (refine iteB_p (by decide) ?_; walk_at "wkn")
  exact w_is_straight_v hc hp (fun _ _ => h) (fun z => nomatch z) (fun _ z => cf e z)
theorem r_after_1 {d p : D} {b : Bool} (hc : Ch d false) (hp : Ch p b) : RunE "after" (.tup [d, p]) "InvalidMap" (some ("given", d)) := fun r T k h => by
  rw [ex__law_run, b__law_run]
  walk_at "wkn"
  repeat (refine iteB_n (by decide) ?_; walk_at "wkn")
  try (refine iteB_p (by decide) ?_; walk_at "wkn")
  exact w_after_v hc hp (fun z => nomatch z) (fun _ => h) (fun z => nomatch z)
theorem r_after_2 {d p : D} (hc : Ch d true) (hp : Ch p false) : RunE "after" (.tup [d, p]) "InvalidMap" (some ("given", p)) := fun r T k h => by
  rw [ex__law_run, b__law_run]
  walk_at "wkn"
  repeat (refine iteB_n (by decide) ?_; walk_at "wkn")
  try (refine iteB_p (by decide) ?_; walk_at "wkn")
  exact w_after_v hc hp (fun _ z => nomatch z) (fun z => nomatch z) (fun _ _ => h)
theorem r_after_l {d p : D} (hc : Ch d true) (hp : Ch p true) : RunL "after" (.tup [d, p]) := fun r T k h => by
  rw [ex__law_run, b__law_run]
  walk_at "wkn"
  repeat (refine iteB_n (by decide) ?_; walk_at "wkn")
  try (refine iteB_p (by decide) ?_; walk_at "wkn")
  exact w_after_v hc hp (fun _ _ => h) (fun z => nomatch z) (fun _ z => nomatch z)
theorem r_back_1 {d : D} (hc : Ch d false) : RunE "back" (.tup [d]) "InvalidMap" (some ("given", d)) := fun r T k h => by
  rw [ex__law_run, b__law_run]
  walk_at "wkn"
  repeat (refine iteB_n (by decide) ?_; walk_at "wkn")
  try (refine iteB_p (by decide) ?_; walk_at "wkn")
  exact w_back_v hc (fun z => nomatch z) (fun _ => h)
theorem r_back_l {d : D} (hc : Ch d true) : RunL "back" (.tup [d]) := fun r T k h => by
  rw [ex__law_run, b__law_run]
  walk_at "wkn"
  repeat (refine iteB_n (by decide) ?_; walk_at "wkn")
  try (refine iteB_p (by decide) ?_; walk_at "wkn")
  exact w_back_v hc (fun _ => h) (fun z => nomatch z)
theorem r_mirror_1 {d : D} (hd : VOk d) (e : isRd d = false) : RunE "mirror" (.tup [d]) "InvalidRound" (some ("given", d)) := fun r T k h => by
  rw [ex__law_run, b__law_run]
  walk_at "wkn"
  repeat (refine iteB_n (by decide) ?_; walk_at "wkn")
  try (refine iteB_p (by decide) ?_; walk_at "wkn")
  exact w_mirror_in_v hd (fun z => cf z e) (fun _ => h)
theorem r_mirror_l {d : D} (hd : VOk d) (e : isRd d = true) : RunL "mirror" (.tup [d]) := fun r T k h => by
  rw [ex__law_run, b__law_run]
  walk_at "wkn"
  repeat (refine iteB_n (by decide) ?_; walk_at "wkn")
  try (refine iteB_p (by decide) ?_; walk_at "wkn")
  exact w_mirror_in_v hd (fun _ => h) (fun z => cf e z)
theorem r_plain_1 {v w i : D} {b : Option D} (h1 : Tp v (some i)) (h2 : Tp w b) : RunE "plain" (.tup [v, w]) "InvalidTriple" (some ("index", i)) := fun r T k h => by
  rw [ex__law_run, b__law_run]
  walk_at "wkn"
  repeat (refine iteB_n (by decide) ?_; walk_at "wkn")
  try (refine iteB_p (by decide) ?_; walk_at "wkn")
  exact w_plain_through_v h1 h2 (fun z => nomatch z) (fun j e => by cases e; exact h) (fun z => nomatch z)
theorem r_plain_2 {v w i : D} (h1 : Tp v none) (h2 : Tp w (some i)) : RunE "plain" (.tup [v, w]) "InvalidTriple" (some ("index", i)) := fun r T k h => by
  rw [ex__law_run, b__law_run]
  walk_at "wkn"
  repeat (refine iteB_n (by decide) ?_; walk_at "wkn")
  try (refine iteB_p (by decide) ?_; walk_at "wkn")
  exact w_plain_through_v h1 h2 (fun _ z => nomatch z) (fun j e => nomatch e) (fun _ j e => by cases e; exact h)
theorem r_plain_l {v w : D} (h1 : Tp v none) (h2 : Tp w none) : RunL "plain" (.tup [v, w]) := fun r T k h => by
  rw [ex__law_run, b__law_run]
  walk_at "wkn"
  repeat (refine iteB_n (by decide) ?_; walk_at "wkn")
  try (refine iteB_p (by decide) ?_; walk_at "wkn")
  exact w_plain_through_v h1 h2 (fun _ _ => h) (fun j e => nomatch e) (fun _ j e => nomatch e)
theorem r_mirrored_1 {v w i : D} {b : Option D} (h1 : Tp v (some i)) (h2 : Tp w b) : RunE "mirrored" (.tup [v, w]) "InvalidTriple" (some ("index", i)) := fun r T k h => by
  rw [ex__law_run, b__law_run]
  walk_at "wkn"
  repeat (refine iteB_n (by decide) ?_; walk_at "wkn")
  try (refine iteB_p (by decide) ?_; walk_at "wkn")
  exact w_mirrored_through_v h1 h2 (fun z => nomatch z) (fun j e => by cases e; exact h) (fun z => nomatch z)
theorem r_mirrored_2 {v w i : D} (h1 : Tp v none) (h2 : Tp w (some i)) : RunE "mirrored" (.tup [v, w]) "InvalidTriple" (some ("index", i)) := fun r T k h => by
  rw [ex__law_run, b__law_run]
  walk_at "wkn"
  repeat (refine iteB_n (by decide) ?_; walk_at "wkn")
  try (refine iteB_p (by decide) ?_; walk_at "wkn")
  exact w_mirrored_through_v h1 h2 (fun _ z => nomatch z) (fun j e => nomatch e) (fun _ j e => by cases e; exact h)
theorem r_mirrored_l {v w : D} (h1 : Tp v none) (h2 : Tp w none) : RunL "mirrored" (.tup [v, w]) := fun r T k h => by
  rw [ex__law_run, b__law_run]
  walk_at "wkn"
  repeat (refine iteB_n (by decide) ?_; walk_at "wkn")
  try (refine iteB_p (by decide) ?_; walk_at "wkn")
  exact w_mirrored_through_v h1 h2 (fun _ _ => h) (fun j e => nomatch e) (fun _ j e => nomatch e)
theorem r_ratio_1 {u v w z : D} (hu : VOk u) (hv : VOk v) (hw : VOk w) (hz : VOk z) (e : isPl u = false) : RunE "ratio" (.tup [u, v, w, z]) "InvalidPlace" (some ("given", u)) := fun r T k h => by
  rw [ex__law_run, b__law_run]
  walk_at "wkn"
  repeat (refine iteB_n (by decide) ?_; walk_at "wkn")
  try (refine iteB_p (by decide) ?_; walk_at "wkn")
  exact w_ratio_of_four_v hu hv hw hz ⟨fun _ => h, fun q _ => cf q e, fun q _ _ => cf q e, fun q _ _ _ => cf q e, fun q _ _ _ _ => cf q e, fun q _ _ _ _ _ => cf q e, fun q _ _ _ _ _ _ _ => cf q e, fun q _ _ _ _ _ _ _ _ _ => cf q e⟩
theorem r_ratio_2 {u v w z : D} (hu : VOk u) (hv : VOk v) (hw : VOk w) (hz : VOk z) (e1 : isPl u = true) (e : isPl v = false) : RunE "ratio" (.tup [u, v, w, z]) "InvalidPlace" (some ("given", v)) := fun r T k h => by
  rw [ex__law_run, b__law_run]
  walk_at "wkn"
  repeat (refine iteB_n (by decide) ?_; walk_at "wkn")
  try (refine iteB_p (by decide) ?_; walk_at "wkn")
  exact w_ratio_of_four_v hu hv hw hz ⟨fun q => cf e1 q, fun _ _ => h, fun _ q _ => cf q e, fun _ q _ _ => cf q e, fun _ q _ _ _ => cf q e, fun _ q _ _ _ _ => cf q e, fun _ q _ _ _ _ _ _ => cf q e, fun _ q _ _ _ _ _ _ _ _ => cf q e⟩
theorem r_ratio_3 {u v w z : D} (hu : VOk u) (hv : VOk v) (hw : VOk w) (hz : VOk z) (e1 : isPl u = true) (e2 : isPl v = true) (e : isPl w = false) : RunE "ratio" (.tup [u, v, w, z]) "InvalidPlace" (some ("given", w)) := fun r T k h => by
  rw [ex__law_run, b__law_run]
  walk_at "wkn"
  repeat (refine iteB_n (by decide) ?_; walk_at "wkn")
  try (refine iteB_p (by decide) ?_; walk_at "wkn")
  exact w_ratio_of_four_v hu hv hw hz ⟨fun q => cf e1 q, fun _ q => cf e2 q, fun _ _ _ => h, fun _ _ q _ => cf q e, fun _ _ q _ _ => cf q e, fun _ _ q _ _ _ => cf q e, fun _ _ q _ _ _ _ _ => cf q e, fun _ _ q _ _ _ _ _ _ _ => cf q e⟩
theorem r_ratio_4 {u v w z : D} (hu : VOk u) (hv : VOk v) (hw : VOk w) (hz : VOk z) (e1 : isPl u = true) (e2 : isPl v = true) (e3 : isPl w = true) (e : isPl z = false) : RunE "ratio" (.tup [u, v, w, z]) "InvalidPlace" (some ("given", z)) := fun r T k h => by
  rw [ex__law_run, b__law_run]
  walk_at "wkn"
  repeat (refine iteB_n (by decide) ?_; walk_at "wkn")
  try (refine iteB_p (by decide) ?_; walk_at "wkn")
  exact w_ratio_of_four_v hu hv hw hz ⟨fun q => cf e1 q, fun _ q => cf e2 q, fun _ _ q => cf e3 q, fun _ _ _ _ => h, fun _ _ _ q _ => cf q e, fun _ _ _ q _ _ => cf q e, fun _ _ _ q _ _ _ _ => cf q e, fun _ _ _ q _ _ _ _ _ _ => cf q e⟩
theorem r_ratio_5 {u v w z : D} (hu : VOk u) (hv : VOk v) (hw : VOk w) (hz : VOk z) (e1 : isPl u = true) (e2 : isPl v = true) (e3 : isPl w = true) (e4 : isPl z = true) (s : v = u) : RunE "ratio" (.tup [u, v, w, z]) "Same" (some ("given", v)) := fun r T k h => by
  rw [ex__law_run, b__law_run]
  walk_at "wkn"
  repeat (refine iteB_n (by decide) ?_; walk_at "wkn")
  try (refine iteB_p (by decide) ?_; walk_at "wkn")
  exact w_ratio_of_four_v hu hv hw hz ⟨fun q => cf e1 q, fun _ q => cf e2 q, fun _ _ q => cf e3 q, fun _ _ _ q => cf e4 q, fun _ _ _ _ _ => h, fun _ _ _ _ q _ => absurd s q, fun _ _ _ _ q _ _ _ => absurd s q, fun _ _ _ _ q _ _ _ _ _ => absurd s q⟩
theorem r_ratio_6 {u v w z : D} (hu : VOk u) (hv : VOk v) (hw : VOk w) (hz : VOk z) (e1 : isPl u = true) (e2 : isPl v = true) (e3 : isPl w = true) (e4 : isPl z = true) (n1 : v ≠ u) (s : w = u ∨ w = v) : RunE "ratio" (.tup [u, v, w, z]) "Same" (some ("given", w)) := fun r T k h => by
  rw [ex__law_run, b__law_run]
  walk_at "wkn"
  repeat (refine iteB_n (by decide) ?_; walk_at "wkn")
  try (refine iteB_p (by decide) ?_; walk_at "wkn")
  exact w_ratio_of_four_v hu hv hw hz ⟨fun q => cf e1 q, fun _ q => cf e2 q, fun _ _ q => cf e3 q, fun _ _ _ q => cf e4 q, fun _ _ _ _ q => absurd q n1, fun _ _ _ _ _ _ => h, fun _ _ _ _ _ a b _ => absurd s (fun q => q.elim a b), fun _ _ _ _ _ a b _ _ _ => absurd s (fun q => q.elim a b)⟩
theorem r_ratio_7 {u v w z : D} (hu : VOk u) (hv : VOk v) (hw : VOk w) (hz : VOk z) (e1 : isPl u = true) (e2 : isPl v = true) (e3 : isPl w = true) (e4 : isPl z = true) (n1 : v ≠ u) (n2 : w ≠ u) (n3 : w ≠ v) (s : z = u ∨ z = v ∨ z = w) : RunE "ratio" (.tup [u, v, w, z]) "Same" (some ("given", z)) := fun r T k h => by
  rw [ex__law_run, b__law_run]
  walk_at "wkn"
  repeat (refine iteB_n (by decide) ?_; walk_at "wkn")
  try (refine iteB_p (by decide) ?_; walk_at "wkn")
  exact w_ratio_of_four_v hu hv hw hz ⟨fun q => cf e1 q, fun _ q => cf e2 q, fun _ _ q => cf e3 q, fun _ _ _ q => cf e4 q, fun _ _ _ _ q => absurd q n1, fun _ _ _ _ _ q => absurd q (fun q => q.elim n2 n3), fun _ _ _ _ _ _ _ _ => h, fun _ _ _ _ _ _ _ a b c => absurd s (fun q => q.elim a (fun q => q.elim b c))⟩
theorem r_ratio_l {u v w z : D} (hu : VOk u) (hv : VOk v) (hw : VOk w) (hz : VOk z) (e1 : isPl u = true) (e2 : isPl v = true) (e3 : isPl w = true) (e4 : isPl z = true) (n1 : v ≠ u) (n2 : w ≠ u) (n3 : w ≠ v) (n4 : z ≠ u) (n5 : z ≠ v) (n6 : z ≠ w) : RunL "ratio" (.tup [u, v, w, z]) := fun r T k h => by
  rw [ex__law_run, b__law_run]
  walk_at "wkn"
  repeat (refine iteB_n (by decide) ?_; walk_at "wkn")
  try (refine iteB_p (by decide) ?_; walk_at "wkn")
  exact w_ratio_of_four_v hu hv hw hz ⟨fun q => cf e1 q, fun _ q => cf e2 q, fun _ _ q => cf e3 q, fun _ _ _ q => cf e4 q, fun _ _ _ _ q => absurd q n1, fun _ _ _ _ _ q => absurd q (fun q => q.elim n2 n3), fun _ _ _ _ _ _ _ q => absurd q (fun q => q.elim n4 (fun q => q.elim n5 n6)), fun _ _ _ _ _ _ _ _ _ _ => fun q => h _⟩
theorem r_four_1 {u v w z : D} (hu : VOk u) (hv : VOk v) (hw : VOk w) (hz : VOk z) (e : isPl u = false) : RunE "four" (.tup [u, v, w, z]) "InvalidPlace" (some ("given", u)) := fun r T k h => by
  rw [ex__law_run, b__law_run]
  walk_at "wkn"
  repeat (refine iteB_n (by decide) ?_; walk_at "wkn")
  try (refine iteB_p (by decide) ?_; walk_at "wkn")
  exact w_on_one_round_v hu hv hw hz ⟨fun _ => h, fun q _ => cf q e, fun q _ _ => cf q e, fun q _ _ _ => cf q e, fun q _ _ _ _ => cf q e, fun q _ _ _ _ _ => cf q e, fun q _ _ _ _ _ _ _ => cf q e, fun q _ _ _ _ _ _ _ _ _ => cf q e⟩
theorem r_four_2 {u v w z : D} (hu : VOk u) (hv : VOk v) (hw : VOk w) (hz : VOk z) (e1 : isPl u = true) (e : isPl v = false) : RunE "four" (.tup [u, v, w, z]) "InvalidPlace" (some ("given", v)) := fun r T k h => by
  rw [ex__law_run, b__law_run]
  walk_at "wkn"
  repeat (refine iteB_n (by decide) ?_; walk_at "wkn")
  try (refine iteB_p (by decide) ?_; walk_at "wkn")
  exact w_on_one_round_v hu hv hw hz ⟨fun q => cf e1 q, fun _ _ => h, fun _ q _ => cf q e, fun _ q _ _ => cf q e, fun _ q _ _ _ => cf q e, fun _ q _ _ _ _ => cf q e, fun _ q _ _ _ _ _ _ => cf q e, fun _ q _ _ _ _ _ _ _ _ => cf q e⟩
theorem r_four_3 {u v w z : D} (hu : VOk u) (hv : VOk v) (hw : VOk w) (hz : VOk z) (e1 : isPl u = true) (e2 : isPl v = true) (e : isPl w = false) : RunE "four" (.tup [u, v, w, z]) "InvalidPlace" (some ("given", w)) := fun r T k h => by
  rw [ex__law_run, b__law_run]
  walk_at "wkn"
  repeat (refine iteB_n (by decide) ?_; walk_at "wkn")
  try (refine iteB_p (by decide) ?_; walk_at "wkn")
  exact w_on_one_round_v hu hv hw hz ⟨fun q => cf e1 q, fun _ q => cf e2 q, fun _ _ _ => h, fun _ _ q _ => cf q e, fun _ _ q _ _ => cf q e, fun _ _ q _ _ _ => cf q e, fun _ _ q _ _ _ _ _ => cf q e, fun _ _ q _ _ _ _ _ _ _ => cf q e⟩
theorem r_four_4 {u v w z : D} (hu : VOk u) (hv : VOk v) (hw : VOk w) (hz : VOk z) (e1 : isPl u = true) (e2 : isPl v = true) (e3 : isPl w = true) (e : isPl z = false) : RunE "four" (.tup [u, v, w, z]) "InvalidPlace" (some ("given", z)) := fun r T k h => by
  rw [ex__law_run, b__law_run]
  walk_at "wkn"
  repeat (refine iteB_n (by decide) ?_; walk_at "wkn")
  try (refine iteB_p (by decide) ?_; walk_at "wkn")
  exact w_on_one_round_v hu hv hw hz ⟨fun q => cf e1 q, fun _ q => cf e2 q, fun _ _ q => cf e3 q, fun _ _ _ _ => h, fun _ _ _ q _ => cf q e, fun _ _ _ q _ _ => cf q e, fun _ _ _ q _ _ _ _ => cf q e, fun _ _ _ q _ _ _ _ _ _ => cf q e⟩
theorem r_four_5 {u v w z : D} (hu : VOk u) (hv : VOk v) (hw : VOk w) (hz : VOk z) (e1 : isPl u = true) (e2 : isPl v = true) (e3 : isPl w = true) (e4 : isPl z = true) (s : v = u) : RunE "four" (.tup [u, v, w, z]) "Same" (some ("given", v)) := fun r T k h => by
  rw [ex__law_run, b__law_run]
  walk_at "wkn"
  repeat (refine iteB_n (by decide) ?_; walk_at "wkn")
  try (refine iteB_p (by decide) ?_; walk_at "wkn")
  exact w_on_one_round_v hu hv hw hz ⟨fun q => cf e1 q, fun _ q => cf e2 q, fun _ _ q => cf e3 q, fun _ _ _ q => cf e4 q, fun _ _ _ _ _ => h, fun _ _ _ _ q _ => absurd s q, fun _ _ _ _ q _ _ _ => absurd s q, fun _ _ _ _ q _ _ _ _ _ => absurd s q⟩
theorem r_four_6 {u v w z : D} (hu : VOk u) (hv : VOk v) (hw : VOk w) (hz : VOk z) (e1 : isPl u = true) (e2 : isPl v = true) (e3 : isPl w = true) (e4 : isPl z = true) (n1 : v ≠ u) (s : w = u ∨ w = v) : RunE "four" (.tup [u, v, w, z]) "Same" (some ("given", w)) := fun r T k h => by
  rw [ex__law_run, b__law_run]
  walk_at "wkn"
  repeat (refine iteB_n (by decide) ?_; walk_at "wkn")
  try (refine iteB_p (by decide) ?_; walk_at "wkn")
  exact w_on_one_round_v hu hv hw hz ⟨fun q => cf e1 q, fun _ q => cf e2 q, fun _ _ q => cf e3 q, fun _ _ _ q => cf e4 q, fun _ _ _ _ q => absurd q n1, fun _ _ _ _ _ _ => h, fun _ _ _ _ _ a b _ => absurd s (fun q => q.elim a b), fun _ _ _ _ _ a b _ _ _ => absurd s (fun q => q.elim a b)⟩
theorem r_four_7 {u v w z : D} (hu : VOk u) (hv : VOk v) (hw : VOk w) (hz : VOk z) (e1 : isPl u = true) (e2 : isPl v = true) (e3 : isPl w = true) (e4 : isPl z = true) (n1 : v ≠ u) (n2 : w ≠ u) (n3 : w ≠ v) (s : z = u ∨ z = v ∨ z = w) : RunE "four" (.tup [u, v, w, z]) "Same" (some ("given", z)) := fun r T k h => by
  rw [ex__law_run, b__law_run]
  walk_at "wkn"
  repeat (refine iteB_n (by decide) ?_; walk_at "wkn")
  try (refine iteB_p (by decide) ?_; walk_at "wkn")
  exact w_on_one_round_v hu hv hw hz ⟨fun q => cf e1 q, fun _ q => cf e2 q, fun _ _ q => cf e3 q, fun _ _ _ q => cf e4 q, fun _ _ _ _ q => absurd q n1, fun _ _ _ _ _ q => absurd q (fun q => q.elim n2 n3), fun _ _ _ _ _ _ _ _ => h, fun _ _ _ _ _ _ _ a b c => absurd s (fun q => q.elim a (fun q => q.elim b c))⟩
theorem r_four_l {u v w z : D} (hu : VOk u) (hv : VOk v) (hw : VOk w) (hz : VOk z) (e1 : isPl u = true) (e2 : isPl v = true) (e3 : isPl w = true) (e4 : isPl z = true) (n1 : v ≠ u) (n2 : w ≠ u) (n3 : w ≠ v) (n4 : z ≠ u) (n5 : z ≠ v) (n6 : z ≠ w) : RunL "four" (.tup [u, v, w, z]) := fun r T k h => by
  rw [ex__law_run, b__law_run]
  walk_at "wkn"
  repeat (refine iteB_n (by decide) ?_; walk_at "wkn")
  try (refine iteB_p (by decide) ?_; walk_at "wkn")
  exact w_on_one_round_v hu hv hw hz ⟨fun q => cf e1 q, fun _ q => cf e2 q, fun _ _ q => cf e3 q, fun _ _ _ q => cf e4 q, fun _ _ _ _ q => absurd q n1, fun _ _ _ _ _ q => absurd q (fun q => q.elim n2 n3), fun _ _ _ _ _ _ _ q => absurd q (fun q => q.elim n4 (fun q => q.elim n5 n6)), fun _ _ _ _ _ _ _ _ _ _ => h⟩

theorem th_g {a : Gi} (h : Nz 82 a) : Th (gD a) := by
  have v := (vok_g h (by decide)).1
  have s := v.sz _ rfl
  exact th_tup (by simp) fun x hx => by
    simp only [List.mem_cons, List.not_mem_nil, or_false] at hx
    rcases hx with rfl | rfl
    · exact el_int (s _ (by simp))
    · exact el_int (s _ (by simp))
theorem bad_noG {x : D} (h : x = .bl true ∨ x = .bl false ∨ x = .int 2 ∨ x = .int (-1) ∨ x = .non ∨ x = .str "1" ∨ x = .tup [.int 0]) : noG x ∧ Gv x := by
  refine ⟨h, ?_⟩
  have e1 : El (.str "1") := el_str (by simp only [okN]; decide +kernel) (by simp only [D.lite]; decide +kernel) (by decide +kernel)
  rcases h with rfl | rfl | rfl | rfl | rfl | rfl | rfl
  · exact th_bl.gv
  · exact th_bl.gv
  · exact (th_int (szl (by decide))).gv
  · exact (th_int (szl (by decide))).gv
  · exact th_non.gv
  · exact (th_el e1 fun _ e => nomatch e).gv
  · exact (th_tup (by simp) (by simp [el_i])).gv
theorem w__law_map_cases {T : Tk} {k : KD} (hT : TkOk T) (h : ∀ (cs : List D) T', cs.length ≤ 100 → (∀ c ∈ cs, Kc c) → TkOk T' → k (.lst cs) T') : sm__law_map_cases [.tank] T k := by
  rw [e__law_map_cases, b__law_map_cases]
  walk_at "wkn"
  refine w__law_four hT fun N T1 hN d0 hT1 => ?_
  walk_at "wkn"
  refine w__law_draw hT1 (by decide) (by decide) fun f T2 f0 f1 hT2 => ?_
  have hf : f = 0 ∨ f = 1 := by omega
  walk_at "wkn"
  refine w__law_oddT hT2 fun od T3 ho hT3 => ?_
  walk_at "wkn"
  refine w__law_oddT hT3 fun ot T4 hu hT4 => ?_
  walk_at "wkn"
  refine w__law_drawn_map hT4 fun g m T5 hm hT5 => ?_
  walk_at "wkn"
  refine w__law_any_place hT5 fun p T6 hp hT6 => ?_
  walk_at "wkn"
  refine w__law_row hT6 fun r T7 hr hT7 => ?_
  walk_at "wkn"
  refine w__law_form hr.bend hr.s1 hr.s2 hr.s3 hr.s4 (by decide) fun x _ _ _ _ _ _ hx => ?_
  walk_at "wkn"
  refine w__law_pick hT7 (by simp) (by simp) fun bad T8 hb hT8 => ?_
  simp only [List.mem_cons, List.not_mem_nil, or_false] at hb
  obtain ⟨hb, gb⟩ := bad_noG hb
  walk_at "wk"
  rw [show idx? [.str "led", .str "round", .str "straight", .str "after"] (.str "led") = some 0 from rfl]
  walk_at "wk"
  repeat (first | (refine iteB_n (by decide) ?_; walk_at "wk") | (refine iteB_p (by decide) ?_; walk_at "wk"))
  rw [show idx? [.str "led", .str "round", .str "straight", .str "after"] (.str "round") = some 1 from rfl]
  walk_at "wk"
  repeat (first | (refine iteB_n (by decide) ?_; walk_at "wk") | (refine iteB_p (by decide) ?_; walk_at "wk"))
  rw [show idx? [.str "led", .str "round", .str "straight", .str "after"] (.str "straight") = some 2 from rfl]
  walk_at "wk"
  repeat (first | (refine iteB_n (by decide) ?_; walk_at "wk") | (refine iteB_p (by decide) ?_; walk_at "wk"))
  rw [show idx? [.str "led", .str "round", .str "straight", .str "after"] (.str "after") = some 3 from rfl]
  walk_at "wk"
  repeat (first | (refine iteB_n (by decide) ?_; walk_at "wk") | (refine iteB_p (by decide) ?_; walk_at "wk"))
  have ta := th_g hN.s1
  have tb := th_g hN.s2
  have tc := th_g hN.s3
  have td := th_g hN.s4
  have co : Ch od false := .no ho.mp
  have cu : Ch ot false := .no hu.mp
  have cm : Ch (mD g m) true := .yes hm
  have tp := th_pt hp (by decide : 40 ≤ 100)
  have tx := th_row hx.toRw.s4' (by decide : 40 ≤ 100)
  have go := ho.th.gv
  have vo := ho.th.vok
  refine h _ T8 (Nat.le_of_ble_eq_true rfl) ?_ hT8
  refine fa (k_none (r_map_d (N := (N.1, N.2.1, N.1, N.2.1)) hf ta.vok tb.vok ta.vok tb.vok (by show N.1 * N.2.1 - N.2.1 * N.1 = 0; grind))) ?_
  refine fa (k_flag (r_map_f hb) gb) ?_
  refine fa (k_complex (r_map_1 hf vo hu.th.vok tc.vok td.vok ho.cx) go) ?_
  refine fa (k_complex (r_map_2 hf ta.vok vo hu.th.vok td.vok gD_isW ho.cx) go) ?_
  refine fa (k_complex (r_map_3 hf ta.vok tb.vok vo hu.th.vok gD_isW gD_isW ho.cx) go) ?_
  refine fa (k_complex (r_map_4 hf ta.vok tb.vok ta.vok vo gD_isW gD_isW gD_isW ho.cx) go) ?_
  refine fa (k_flag (r_map_f hb) gb) ?_
  refine fa (k_let (r_map_l hf ta.vok tb.vok tc.vok td.vok d0)) ?_
  refine fa (k_map (r_led_1 co hu.th.vok) go) ?_
  refine fa (k_place (r_led_2 cm vo ho.pl) go) ?_
  refine fa (k_let (r_led_l cm tp.vok hp.isPl)) ?_
  refine fa (k_map (r_round_1 co hu.th.vok) go) ?_
  refine fa (k_round (r_round_2 cm vo ho.rd) go) ?_
  refine fa (k_let (r_round_l cm tx.vok hx.isRd)) ?_
  refine fa (k_map (r_straight_1 co hu.th.vok) go) ?_
  refine fa (k_round (r_straight_2 cm vo ho.rd) go) ?_
  refine fa (k_let (r_straight_l cm tx.vok hx.isRd)) ?_
  refine fa (k_map (r_after_1 co cu) go) ?_
  refine fa (k_map (r_after_2 cm co) go) ?_
  refine fa (k_let (r_after_l cm cm)) ?_
  refine fa (k_map (r_back_1 co) go) ?_
  refine fa (k_let (r_back_l cm)) ?_
  refine fa (k_round (r_mirror_1 vo ho.rd) go) ?_
  exact fa (k_let (r_mirror_l tx.vok hx.isRd)) fa0

theorem w__law_wrong_triple {T : Tk} {k : KD} (hT : TkOk T) (h : ∀ v i T', Tp v (some i) → Gv i → TkOk T' → k (.tup [v, i]) T') : sm__law_wrong_triple [.tank] T k := by
  rw [e__law_wrong_triple, b__law_wrong_triple]
  walk_at "wkn"
  refine w_unlike3 hT fun p q s T1 n1 n2 n3 hp hq hs hT1 => ?_
  walk_at "wkn"
  refine w__law_draw hT1 (by decide) (by decide) fun at' T2 a0 a1 hT2 => ?_
  walk_at "wkn"
  refine w__law_oddT hT2 fun od T3 ho hT3 => ?_
  walk_at "wkn"
  refine w__law_draw hT3 (by decide) (by decide) fun way T4 w0 w1 hT4 => ?_
  have gi : ∀ {i : Int}, i.natAbs < 128 → Gv (.int i) := fun a => (th_int (szl a)).gv
  have tp := th_pt hp (by decide : 40 ≤ 100)
  have tq := th_pt hq (by decide : 40 ≤ 100)
  have ts := th_pt hs (by decide : 40 ≤ 100)
  have ha : at' = 0 ∨ at' = 1 ∨ at' = 2 := by omega
  walk_at "wkn"
  refine iteB_of (fun _ => ?_) (fun _ => ?_)
  · walk_at "wkn"
    refine w__law_pick hT4 (by simp) (by simp) fun x T5 hx hT5 => ?_
    simp only [List.mem_cons, List.not_mem_nil, or_false] at hx
    walk_at "wkn"
    refine h _ _ T5 ?_ th_non.gv hT5
    rcases hx with rfl | rfl | rfl | rfl | rfl
    all_goals
      refine .bad (tr_no ?_ ?_)
      · exact trivial
      · exact fun _ e => nomatch e
  walk_at "wkn"
  refine iteB_of (fun _ => ?_) (fun _ => ?_)
  · walk_at "wkn"
    refine w__law_pick hT4 (by simp) (by simp) fun x T5 hx hT5 => ?_
    walk_at "wkn"
    exact h _ _ T5 (.bad (tr_3 (rest := []) hp hq hs n1 n2 n3 (by simp))) (gi (by decide)) hT5
  rcases ha with rfl | rfl | rfl
  · walk_at "wkn"
    refine iteB_of (fun _ => ?_) (fun _ => ?_)
    · walk_at "wkn"
      exact h _ _ T4 (.bad tr_s0) (gi (by decide)) hT4
    walk_at "wkn"
    refine w__law_pick hT4 (by simp) (by simp) fun x T5 hx hT5 => ?_
    simp only [List.mem_cons, List.not_mem_nil, or_false] at hx
    rcases hx with rfl | rfl | rfl
    all_goals
      walk_at "wkn"
      exact h _ _ T5 (.bad (tr_0 (by simp) ho.th.vok ho.pl)) (gi (by decide)) hT5
  · walk_at "wkn"
    refine iteB_of (fun _ => ?_) (fun _ => ?_)
    · walk_at "wkn"
      exact h _ _ T4 (.bad (tr_s1 hp)) (gi (by decide)) hT4
    walk_at "wkn"
    refine iteB_of (fun _ => ?_) (fun _ => ?_)
    · walk_at "wkn"
      refine w__law_draw hT4 (by decide) (by decide) fun j T5 j0 j1 hT5 => ?_
      obtain rfl : j = 0 := by omega
      walk_at "wkn"
      exact h _ _ T5 (.bad (tr_1 hp (by simp) tp.vok (.inr rfl))) (gi (by decide)) hT5
    walk_at "wkn"
    refine w__law_pick hT4 (by simp) (by simp) fun x T5 hx hT5 => ?_
    simp only [List.mem_cons, List.not_mem_nil, or_false] at hx
    rcases hx with rfl | rfl | rfl
    all_goals
      walk_at "wkn"
      exact h _ _ T5 (.bad (tr_1 hp (by simp) ho.th.vok (.inl ho.pl))) (gi (by decide)) hT5
  · walk_at "wkn"
    refine iteB_of (fun _ => ?_) (fun _ => ?_)
    · walk_at "wkn"
      exact h _ _ T4 (.bad (tr_s2 hp hq n1)) (gi (by decide)) hT4
    walk_at "wkn"
    refine iteB_of (fun _ => ?_) (fun _ => ?_)
    · walk_at "wkn"
      refine w__law_draw hT4 (by decide) (by decide) fun j T5 j0 j1 hT5 => ?_
      have hj : j = 0 ∨ j = 1 := by omega
      rcases hj with rfl | rfl
      · walk_at "wkn"
        exact h _ _ T5 (.bad (tr_2 hp hq n1 (by simp) tp.vok (.inr (.inl rfl)))) (gi (by decide)) hT5
      · walk_at "wkn"
        exact h _ _ T5 (.bad (tr_2 hp hq n1 (by simp) tq.vok (.inr (.inr rfl)))) (gi (by decide)) hT5
    walk_at "wkn"
    refine w__law_pick hT4 (by simp) (by simp) fun x T5 hx hT5 => ?_
    simp only [List.mem_cons, List.not_mem_nil, or_false] at hx
    rcases hx with rfl | rfl | rfl
    all_goals
      walk_at "wkn"
      exact h _ _ T5 (.bad (tr_2 hp hq n1 (by simp) ho.th.vok (.inl ho.pl))) (gi (by decide)) hT5
theorem w__law_triple_cases {T : Tk} {k : KD} (hT : TkOk T) (h : ∀ (cs : List D) T', cs.length ≤ 100 → (∀ c ∈ cs, Kc c) → TkOk T' → k (.lst cs) T') : sm__law_triple_cases [.tank] T k := by
  rw [e__law_triple_cases, b__law_triple_cases]
  walk_at "wkn"
  refine w_unlike3 hT fun p q s T1 n1 n2 n3 hp hq hs hT1 => ?_
  walk_at "wkn"
  refine w_unlike3 hT1 fun p' q' s' T2 n1' n2' n3' hp' hq' hs' hT2 => ?_
  walk_at "wkn"
  refine w__law_wrong_triple hT2 fun v i T3 hv gi hT3 => ?_
  walk_at "wkn"
  refine w__law_wrong_triple hT3 fun w j T4 hw gj hT4 => ?_
  walk_at "wk"
  refine w_unlike4 hT4 fun a b c d T5 ab ac bc ad bd cd ha hb hc hd hT5 => ?_
  walk_at "wkn"
  refine w__law_oddT hT5 fun od T6 ho hT6 => ?_
  walk_at "wkn"
  refine w__law_oddT hT6 fun ot T7 hu hT7 => ?_
  walk_at "wk"
  have va := (th_pt ha (by decide : 40 ≤ 100)).vok
  have vb := (th_pt hb (by decide : 40 ≤ 100)).vok
  have vc := (th_pt hc (by decide : 40 ≤ 100)).vok
  have vd := (th_pt hd (by decide : 40 ≤ 100)).vok
  have ga := (th_pt ha (by decide : 40 ≤ 100)).gv
  have gb := (th_pt hb (by decide : 40 ≤ 100)).gv
  have go := ho.th.gv
  have vo := ho.th.vok
  have vu := hu.th.vok
  have ia := ha.isPl
  have ib := hb.isPl
  have ic := hc.isPl
  have id' := hd.isPl
  have m1 : pD b ≠ pD a := fun e => ab (pD_eq e).symm
  have m2 : pD c ≠ pD a := fun e => ac (pD_eq e).symm
  have m3 : pD c ≠ pD b := fun e => bc (pD_eq e).symm
  have m4 : pD d ≠ pD a := fun e => ad (pD_eq e).symm
  have m5 : pD d ≠ pD b := fun e => bd (pD_eq e).symm
  have m6 : pD d ≠ pD c := fun e => cd (pD_eq e).symm
  have g1 : Tp (.tup [pD p, pD q, pD s]) none := .good hp hq hs n1 n2 n3
  have g2 : Tp (.tup [pD p', pD q', pD s']) none := .good hp' hq' hs' n1' n2' n3'
  refine h _ T7 (Nat.le_of_ble_eq_true rfl) ?_ hT7
  refine fa (k_triple (r_plain_1 hv hw) gi) ?_
  refine fa (k_triple (r_plain_2 g1 hw) gj) ?_
  refine fa (k_let (r_plain_l g1 g2)) ?_
  refine fa (k_triple (r_mirrored_1 hv hw) gi) ?_
  refine fa (k_triple (r_mirrored_2 g1 hw) gj) ?_
  refine fa (k_let (r_mirrored_l g1 g2)) ?_
  refine fa (k_place (r_ratio_1 vo vu vc vd ho.pl) go) ?_
  refine fa (k_place (r_ratio_2 va vo vu vd ia ho.pl) go) ?_
  refine fa (k_place (r_ratio_3 va va vo vu ia ia ho.pl) go) ?_
  refine fa (k_place (r_ratio_4 va va va vo ia ia ia ho.pl) go) ?_
  refine fa (k_same (r_ratio_6 va vb va vb ia ib ia ib m1 (.inl rfl)) ga) ?_
  refine fa (k_same (r_ratio_7 va vb vc vb ia ib ic ib m1 m2 m3 (.inr (.inl rfl))) gb) ?_
  refine fa (k_same (r_ratio_5 va va vb vb ia ia ib ib rfl) ga) ?_
  refine fa (k_let (r_ratio_l va vb vc vd ia ib ic id' m1 m2 m3 m4 m5 m6)) ?_
  refine fa (k_place (r_four_1 vo vu vc vd ho.pl) go) ?_
  refine fa (k_place (r_four_2 va vo vu vd ia ho.pl) go) ?_
  refine fa (k_place (r_four_3 va va vo vu ia ia ho.pl) go) ?_
  refine fa (k_place (r_four_4 va va va vo ia ia ia ho.pl) go) ?_
  refine fa (k_same (r_four_6 va vb va vb ia ib ia ib m1 (.inl rfl)) ga) ?_
  refine fa (k_same (r_four_7 va vb vc vb ia ib ic ib m1 m2 m3 (.inr (.inl rfl))) gb) ?_
  refine fa (k_same (r_four_5 va va vb vb ia ia ib ib rfl) ga) ?_
  refine fa (k_let (r_four_l va vb vc vd ia ib ic id' m1 m2 m3 m4 m5 m6)) ?_
  exact fa0
theorem w__law_right {T : Tk} {k : KD} (hT : TkOk T) (h : ∀ T', k (.bl true) T') : sm__law_right [.tank] T k := by
  rw [e__law_right, b__law_right]
  walk_at "wkn"
  refine w__law_map_cases hT fun c1 T1 l1 h1 hT1 => ?_
  walk_at "wkn"
  refine w__law_triple_cases hT1 fun c2 T2 l2 h2 hT2 => ?_
  walk_at "wkn"
  have l : (c1 ++ c2).length ≤ 200 := by rw [List.length_append]; omega
  refine ⟨by omega, by omega, ?_⟩
  refine cases_for (fun T a b c d => ?_) (c1 ++ c2) none none none none T2 (fun c hc => ?_)
  · walk_at "wkn"
    exact h T
  · rcases List.mem_append.mp hc with hc | hc
    · exact h1 c hc
    · exact h2 c hc

theorem w_law {ns : List Int} (h : ns.length ≤ 63) : sm_law [.val (scrD ns)] [] fun r _ => r = .bl true := by
  rw [e_law, b_law, scrD]
  walk_at "ev"
  refine w__law_rounds fun r hr => ?_
  rcases hr with rfl | rfl
  · refine ⟨by decide, by decide, ?_⟩
    simp only [show Int.toNat 2 = 2 from rfl, intsL]
    walk_at "ev"
    refine w__law_tank (by decide) fun T hT => ?_
    walk_at "ev"
    refine w__law_right hT fun T' => ?_
    walk_at "ev"
    refine w__law_tank (by decide) fun T hT => ?_
    walk_at "ev"
    refine w__law_right hT fun T' => ?_
    walk_at "ev"
    simp
  · refine ⟨by decide, by decide, ?_⟩
    simp only [show Int.toNat 3 = 3 from rfl, intsL]
    walk_at "ev"
    refine w__law_tank (by decide) fun T hT => ?_
    walk_at "ev"
    refine w__law_right hT fun T' => ?_
    walk_at "ev"
    refine w__law_tank (by decide) fun T hT => ?_
    walk_at "ev"
    refine w__law_right hT fun T' => ?_
    walk_at "ev"
    refine w__law_tank (by decide) fun T hT => ?_
    walk_at "ev"
    refine w__law_right hT fun T' => ?_
    walk_at "ev"
    simp

theorem w_fin (ns : List Int) (h : ns.length ≤ 63) : sm_law [.val (scrD ns)] [] fun r _ => r = .bl true := w_law h
end L2.G
open PySem PySem.W PyProof.Rows in
set_option maxRecDepth 100000 in
set_option maxHeartbeats 0 in
theorem PySem.Challenge.cw_drawarms_k17_maps_and_triples_refused_holds : PySem.Challenge.rw_drawarms_k17_maps_and_triples_refused.Holds := by
  w_on; o_law
  refine HandSHeadRun.head_imp (r := PySem.W.OpenLaw.row PySem.Challenge.rw_drawarms_k17_maps_and_triples_refused) (q := L2.G.hdV) (H := L2.G.hdK) (ob := L2.G.hdO) (M := 20000) (loose := L2.G.hdNames) (d := HandSHeadRun.topDef (PySem.W.OpenLaw.row PySem.Challenge.rw_drawarms_k17_maps_and_triples_refused).prog 109) (kwd := []) L2.G.hdO_eq
    L2.G.hd_run (by kernel_rfl) (by kernel_rfl) (by kernel_rfl) (by rfl) (by first | assumption | decide +kernel) (by decide +kernel) ⟨rfl, rfl, rfl, rfl, rfl, by decide +kernel⟩ ?hw ?hc
  case hw => w_witness2
  case hc =>
    refine L2.G.g_walkE (l := PySem.Challenge.rw_drawarms_k17_maps_and_triples_refused) (n := 63) (k := 12) (x := "law") (y := "_law_script") (sem := L2.G.sm_law) rfl (by decide) (by kernel_rfl) ⟨rfl, by decide, by decide⟩ (by kernel_rfl) ?F L2.G.w_fin
    intro w mg h Y G
    obtain ⟨K, KX, c⟩ := Y
    exact ⟨K, KX, fun base hK hG => L2.G.ok_law (L2.G.hd_tx hK hG c)⟩
