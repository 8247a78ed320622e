import PyProof.Rows.All
import Wide.All
import OpenK.AllK
import Wide.FinOn
import HandS.Base
import HandS.Call
import HandS.List
import HandS.Comp
import HandS.Ends
import HandS.Words
import HandS.Wide
import HandS.Gcd
import HandS.IsInst
import HandS.Conv
import HandS.TupAny
import HandS.WideBits
import HandS.Iter
import HandS.RaiseMore
import HandS.Deep
import HandS.ForMost
import HandS.Zip
import HandS.Style
import HandS.Star
import KE.GoesEnum
import HandS.NoneIn
import HandS.Dict
import HandS.TupSets
import KE.KSortTupG
import KE.KStateDown
import HandS.Exc
import HandS.ExcIs
import KE.KTryMore
import HandS.Head0
import HandS.Head1
import HandS.Head2
import HandS.Head3
import HandS.HeadHook1
import HandS.ExcOwn
import HandS.TryOnly
import HandS.TupMul
import HandS.ForExc
import HandS.SetFor
import HandS.Strs
import KE.GoesMore
import PySem.Challenge.RW_drawarms_k51_whole_agreement_of_maps
set_option Elab.async false
set_option linter.all false
set_option maxRecDepth 100000
set_option maxHeartbeats 0
namespace L2.G
open PySem PySem.Spec PyProof.Rows

/-! data: what a Python value is, without the heap -/
inductive D where
  | non | bl (b : Bool) | int (i : Int) | str (x : Str) | tup (xs : List D) | lst (xs : List D)
  | obj (C : Addr) (ns : List Str) (vs : List D) | ref (a : Addr) | scr (xs : List D) | dct (ks : List Key) (ds : List D)

mutual
inductive Rep (K : PySem.W.Frag) (F : Hp) : D → V → Prop
  | non : Rep K F .non .non
  | bl (b : Bool) : Rep K F (.bl b) (.bl b)
  | int (i : Int) : Rep K F (.int i) (.int i)
  | str (x : Str) : Rep K F (.str x) (.str x)
  | tup {a : Addr} {xs : List V} {ds : List D} : SqT K F a xs → RepL K F ds xs → Rep K F (.tup ds) (.ref a)
  | lst {a : Addr} {xs : List V} {ds : List D} : F a = some (.lst xs) → RepL K F ds xs → Rep K F (.lst ds) (.ref a)
  | obj {a C dx : Addr} {fs : List (Str × V)} {ns : List Str} {ds : List D} : F a = some (.ins C dx fs) → fs.map (·.1) = ns → RepL K F ds (fs.map (·.2)) → Rep K F (.obj C ns ds) (.ref a)
  | ref (a : Addr) : (K.lookup a).isSome = true → Rep K F (.ref a) (.ref a)
  | scr {a : Addr} {xs : List V} {ds : List D} : SqL K F a xs → RepL K F ds xs → Rep K F (.scr ds) (.ref a)
  | dct {a : Addr} {kvs : List (Key × V)} {ks : List Key} {ds : List D} : F a = some (.dK kvs) → kvs.map (·.1) = ks → RepL K F ds (kvs.map (·.2)) → Rep K F (.dct ks ds) (.ref a)
inductive RepL (K : PySem.W.Frag) (F : Hp) : List D → List V → Prop
  | nil : RepL K F [] []
  | cons {d : D} {ds : List D} {v : V} {vs : List V} : Rep K F d v → RepL K F ds vs → RepL K F (d :: ds) (v :: vs)
end

theorem same_t {K : PySem.W.Frag} {F F' : Hp} {a : Addr} {xs : List V} (e : Same F F') (h : SqT K F a xs) : SqT K F' a xs := by
  rcases h with (h | ⟨o, h⟩) | h
  · left; left; exact e _ _ h
  · left; right; exact ⟨o, e _ _ h⟩
  · right; exact h

mutual
theorem Rep.mono {K : PySem.W.Frag} {F F' : Hp} (e : Same F F') : ∀ {d : D} {v : V}, Rep K F d v → Rep K F' d v
  | _, _, .non => .non
  | _, _, .bl b => .bl b
  | _, _, .int i => .int i
  | _, _, .str x => .str x
  | _, _, .tup h q => .tup (same_t e h) (RepL.mono e q)
  | _, _, .lst h q => .lst (e _ _ h) (RepL.mono e q)
  | _, _, .obj h n q => .obj (e _ _ h) n (RepL.mono e q)
  | _, _, .ref a h => .ref a h
  | _, _, .scr h q => .scr (e.seq h) (RepL.mono e q)
  | _, _, .dct h n q => .dct (e _ _ h) n (RepL.mono e q)
theorem RepL.mono {K : PySem.W.Frag} {F F' : Hp} (e : Same F F') : ∀ {ds : List D} {vs : List V}, RepL K F ds vs → RepL K F' ds vs
  | _, _, .nil => .nil
  | _, _, .cons h q => .cons (Rep.mono e h) (RepL.mono e q)
end
theorem RepL.len {K : PySem.W.Frag} {F : Hp} : ∀ {ds : List D} {vs : List V}, RepL K F ds vs → ds.length = vs.length
  | _, _, .nil => rfl
  | _, _, .cons _ q => by simp [RepL.len q]
theorem RepL.get {K : PySem.W.Frag} {F : Hp} : ∀ {ds : List D} {vs : List V} {i : Nat} {d : D}, RepL K F ds vs → ds[i]? = some d → ∃ v, vs[i]? = some v ∧ Rep K F d v
  | _, _, _, _, .nil, e => by simp at e
  | _, _, 0, _, .cons h _, e => by simp at e; subst e; exact ⟨_, rfl, h⟩
  | _, _, i + 1, _, .cons _ q, e => by
    obtain ⟨v, h1, h2⟩ := RepL.get (i := i) q (by simpa using e)
    exact ⟨v, by simpa using h1, h2⟩
theorem RepL.getV {K : PySem.W.Frag} {F : Hp} : ∀ {ds : List D} {vs : List V} {i : Nat} {v : V}, RepL K F ds vs → vs[i]? = some v → ∃ d, ds[i]? = some d ∧ Rep K F d v
  | _, _, _, _, .nil, e => by simp at e
  | _, _, 0, _, .cons h _, e => by simp at e; subst e; exact ⟨_, rfl, h⟩
  | _, _, i + 1, _, .cons _ q, e => by
    obtain ⟨v, h1, h2⟩ := RepL.getV (i := i) q (by simpa using e)
    exact ⟨v, by simpa using h1, h2⟩
theorem RepL.app {K : PySem.W.Frag} {F : Hp} : ∀ {ds es : List D} {vs ws : List V}, RepL K F ds vs → RepL K F es ws → RepL K F (ds ++ es) (vs ++ ws)
  | _, _, _, _, .nil, q => q
  | _, _, _, _, .cons h t, q => .cons h (RepL.app t q)
theorem RepL.take {K : PySem.W.Frag} {F : Hp} : ∀ {ds : List D} {vs : List V} (n : Nat), RepL K F ds vs → RepL K F (ds.take n) (vs.take n)
  | _, _, 0, _ => .nil
  | _, _, _ + 1, .nil => .nil
  | _, _, n + 1, .cons h t => .cons h (RepL.take n t)
theorem RepL.drop {K : PySem.W.Frag} {F : Hp} : ∀ {ds : List D} {vs : List V} (n : Nat), RepL K F ds vs → RepL K F (ds.drop n) (vs.drop n)
  | _, _, 0, q => q
  | _, _, _ + 1, .nil => .nil
  | _, _, n + 1, .cons _ t => RepL.drop n t
theorem RepL.set {K : PySem.W.Frag} {F : Hp} {d : D} {v : V} (r : Rep K F d v) : ∀ {ds : List D} {vs : List V} (n : Nat), RepL K F ds vs → RepL K F (ds.set n d) (vs.set n v)
  | _, _, _, .nil => .nil
  | _, _, 0, .cons _ t => .cons r t
  | _, _, n + 1, .cons h t => .cons h (RepL.set r n t)

/-! slots, worlds -/
abbrev Tk := List D
inductive SV where
  | val (d : D) | own (xs : List D) | tank | exc (a : Addr) (g : Option (Addr × Str × D))
abbrev En := List (Option SV)
abbrev KD := D → Tk → Prop
abbrev dE := En → Tk → KD → Prop
abbrev dT := En → Tk → (Bool → Tk → Prop) → Prop
abbrev dA := En → Tk → (List SV → Tk → Prop) → Prop
structure dEnds where
  nx : En → Tk → Prop
  rt : KD
  bk : En → Tk → Prop
  ct : En → Tk → Prop
abbrev dS := dEnds → En → Tk → Prop

structure Wt (K : PySem.W.Frag) (T : Tk) (t : Option Addr) (F H : Hp) : Prop where
  sub : Same F H
  tank : ∀ a, t = some a → F a = none ∧ ∃ vs, H a = some (.lst vs) ∧ RepL K F T vs
structure Grow (t : Option Addr) (F H F' H' : Hp) : Prop where
  sub : Same F F'
  keep : ∀ a o, H a = some o → t ≠ some a → H' a = some o
  new : ∀ a o, H a = some o → F a = none → F' a = none
  there : ∀ a o, H a = some o → ∃ o', H' a = some o'
theorem Grow.refl (t : Option Addr) (F H : Hp) : Grow t F H F H := ⟨Same.refl _, fun _ _ h _ => h, fun _ _ _ h => h, fun _ o h => ⟨o, h⟩⟩
theorem Grow.trans {t : Option Addr} {F H F1 H1 F2 H2 : Hp} (a : Grow t F H F1 H1) (b : Grow t F1 H1 F2 H2) : Grow t F H F2 H2 :=
  ⟨a.sub.trans b.sub, fun c o h n => b.keep c o (a.keep c o h n) n, fun c o h n => let ⟨o', h'⟩ := a.there c o h; b.new c o' h' (a.new c o h n),
    fun c o h => let ⟨o', h'⟩ := a.there c o h; b.there c o' h'⟩

def SlotR (K : PySem.W.Frag) (t : Option Addr) (F H : Hp) : SV → V → Prop
  | .val d, v => Rep K F d v
  | .own xs, v => ∃ l vs, v = .ref l ∧ F l = none ∧ H l = some (.lst vs) ∧ RepL K F xs vs ∧ t ≠ some l
  | .tank, v => ∃ a, t = some a ∧ v = .ref a
  | .exc a g, v => v = .ref a ∧ ∀ dd fl x, g = some (dd, fl, x) → t ≠ some dd ∧ ∃ u, H dd = some (.xd [(fl, u)]) ∧ Rep K F x u
structure Wd (K : PySem.W.Frag) (ρ : En) (T : Tk) (t : Option Addr) (σ : L2.St) (F H : Hp) : Prop where
  wt : Wt K T t F H
  len : ρ.length = σ.length
  slot : ∀ (i : Nat) s, ρ[i]? = some (some s) → ∃ v, σ[i]? = some (some v) ∧ SlotR K t F H s v
  apart : ∀ (i j : Nat) xs ys l, ρ[i]? = some (some (.own xs)) → ρ[j]? = some (some (.own ys)) → σ[i]? = some (some (.ref l)) → σ[j]? = some (some (.ref l)) → i = j
theorem SlotR.grow {K : PySem.W.Frag} {t : Option Addr} {F H F' H' : Hp} (g : Grow t F H F' H') : ∀ {s : SV} {v : V}, SlotR K t F H s v → SlotR K t F' H' s v
  | .val _, _, h => Rep.mono g.sub h
  | .own _, _, ⟨l, vs, e, n, h, r, ne⟩ => ⟨l, vs, e, g.new _ _ h n, g.keep _ _ h ne, r.mono g.sub, ne⟩
  | .tank, _, h => h
  | .exc _ _, _, ⟨e, h⟩ => ⟨e, fun dd fl x q => let ⟨n, u, h1, r⟩ := h dd fl x q; ⟨n, u, g.keep _ _ h1 n, r.mono g.sub⟩⟩
theorem Wd.grow {K : PySem.W.Frag} {ρ : En} {T T' : Tk} {t : Option Addr} {σ : L2.St} {F H F' H' : Hp} (w : Wd K ρ T t σ F H) (g : Grow t F H F' H') (w' : Wt K T' t F' H') : Wd K ρ T' t σ F' H' :=
  ⟨w', w.len, fun i s e => let ⟨v, h1, h2⟩ := w.slot i s e; ⟨v, h1, h2.grow g⟩, w.apart⟩

/-! readings -/
def Fin (K : PySem.W.Frag) (t : Option Addr) (F H : Hp) (k : KD) (Q : VK) : Prop := ∀ v H' F' d T', Wt K T' t F' H' → Grow t F H F' H' → Rep K F' d v → k d T' → Q v H'
def tD (K : PySem.W.Frag) (f : dE) : TE := fun σ H Q => ∃ ρ T t F k, Wd K ρ T t σ F H ∧ f ρ T k ∧ Fin K t F H k Q
def tDT (K : PySem.W.Frag) (f : dT) : TT := fun σ H Q => ∃ ρ T t F k, Wd K ρ T t σ F H ∧ f ρ T k ∧ ∀ b H' F' T', Wt K T' t F' H' → Grow t F H F' H' → k b T' → Q b H'
inductive ArgL (K : PySem.W.Frag) (t : Option Addr) (F : Hp) : List SV → List V → Prop
  | nil : ArgL K t F [] []
  | val {d : D} {v : V} {as : List SV} {vs : List V} : Rep K F d v → ArgL K t F as vs → ArgL K t F (.val d :: as) (v :: vs)
  | tank {a : Addr} {as : List SV} {vs : List V} : t = some a → ArgL K t F as vs → ArgL K t F (.tank :: as) (.ref a :: vs)
theorem ArgL.mono {K : PySem.W.Frag} {t : Option Addr} {F F' : Hp} (e : Same F F') : ∀ {as : List SV} {vs : List V}, ArgL K t F as vs → ArgL K t F' as vs
  | _, _, .nil => .nil
  | _, _, .val r q => .val (r.mono e) (q.mono e)
  | _, _, .tank h q => .tank h (q.mono e)
theorem ArgL.len {K : PySem.W.Frag} {t : Option Addr} {F : Hp} : ∀ {as : List SV} {vs : List V}, ArgL K t F as vs → as.length = vs.length
  | _, _, .nil => rfl
  | _, _, .val _ q => by simp [q.len]
  | _, _, .tank _ q => by simp [q.len]
def tDA (K : PySem.W.Frag) (f : dA) : TA := fun σ H Q => ∃ ρ T t F k, Wd K ρ T t σ F H ∧ f ρ T k ∧ ∀ vs H' F' as T', Wt K T' t F' H' → Grow t F H F' H' → ArgL K t F' as vs → k as T' → Q vs H'
abbrev PEd (X : Cx) (e : Expr) (f : dE) : Prop := PE X e (tD X.K f)
abbrev PTd (X : Cx) (e : Expr) (f : dT) : Prop := PT X e (tDT X.K f)
abbrev PAd (X : Cx) (es : List Expr) (f : dA) : Prop := PA X es (tDA X.K f)
theorem pe_imp {X : Cx} {e : Expr} {t u : TE} (h : PE X e t) (i : ∀ σ H Q, u σ H Q → t σ H Q) : PE X e u := ⟨fun pins s σ H Q I q => h.run pins s σ H Q I (i _ _ _ q)⟩
theorem pt_imp {X : Cx} {e : Expr} {t u : TT} (h : PT X e t) (i : ∀ σ H Q, u σ H Q → t σ H Q) : PT X e u := ⟨fun pins s σ H Q I q => h.run pins s σ H Q I (i _ _ _ q)⟩
theorem pw_imp {X : Cx} {e : Expr} {t u : TT} (h : PW X e t) (i : ∀ σ H Q, u σ H Q → t σ H Q) : PW X e u := ⟨fun wh pins s σ H Q I q => h.run wh pins s σ H Q I (i _ _ _ q)⟩
theorem pa_imp {X : Cx} {e : List Expr} {t u : TA} (h : PA X e t) (i : ∀ σ H Q, u σ H Q → t σ H Q) : PA X e u := ⟨fun pos pins s σ H Q I q => h.run pos pins s σ H Q I (i _ _ _ q)⟩
theorem ps_imp {X : Cx} {e : Stmt} {t u : TS} (h : PS X e t) (i : ∀ K σ H, u K σ H → t K σ H) : PS X e u := ⟨fun pins s σ H K I q => h.run pins s σ H K I (i _ _ _ q)⟩
theorem pss_imp {X : Cx} {e : List Stmt} {t u : TS} (h : PSs X e t) (i : ∀ K σ H, u K σ H → t K σ H) : PSs X e u := ⟨fun pins s σ H K I q => h.run pins s σ H K I (i _ _ _ q)⟩

theorem Fin.then {K : PySem.W.Frag} {t : Option Addr} {F H F' H' : Hp} {k : KD} {Q : VK} (f : Fin K t F H k Q) (g : Grow t F H F' H') : Fin K t F' H' k Q :=
  fun v H2 F2 d T2 w g2 r q => f v H2 F2 d T2 w (g.trans g2) r q
/-- a value that needs nothing new -/
theorem Fin.val {K : PySem.W.Frag} {t : Option Addr} {F H : Hp} {k : KD} {Q : VK} {T : Tk} {d : D} {v : V} (f : Fin K t F H k Q) (w : Wt K T t F H) (r : Rep K F d v) (q : k d T) : Q v H :=
  f v H F d T w (Grow.refl _ _ _) r q
theorem same_upd {F : Hp} {p : Addr} {o : HO} (h : F p = none) : Same F (upd F p o) := fun b u e => by rw [upd_ne (ne_of_none e h)]; exact e
theorem grow_new {t : Option Addr} {F H : Hp} {p : Addr} {o : HO} (s : Same F H) (h : H p = none) : Grow t F H (upd F p o) (upd H p o) := by
  have hF : F p = none := s.free h
  refine ⟨same_upd hF, fun a u e _ => same_upd h a u e, fun a u e n => ?_, fun a u e => ⟨u, same_upd h a u e⟩⟩
  rw [upd_ne (ne_of_none e h)]
  exact n
theorem grow_own {t : Option Addr} {F H : Hp} {p : Addr} {o : HO} (s : Same F H) (h : H p = none) : Grow t F H F (upd H p o) :=
  ⟨Same.refl _, fun a u e _ => same_upd h a u e, fun _ _ _ n => n, fun a u e => ⟨u, same_upd h a u e⟩⟩
theorem same_both {F H : Hp} {p : Addr} {o : HO} (s : Same F H) : Same (upd F p o) (upd H p o) := fun b u e => by
  by_cases hb : b = p
  · subst hb; rw [upd_same] at e ⊢; exact e
  · rw [upd_ne hb] at e ⊢; exact s b u e
theorem wt_new {K : PySem.W.Frag} {T : Tk} {t : Option Addr} {F H : Hp} {p : Addr} {o : HO} (w : Wt K T t F H) (h : H p = none) : Wt K T t (upd F p o) (upd H p o) := by
  refine ⟨same_both w.sub, fun a e => ?_⟩
  obtain ⟨n, vs, hv, r⟩ := w.tank a e
  have na : a ≠ p := ne_of_none hv h
  exact ⟨by rw [upd_ne na]; exact n, vs, by rw [upd_ne na]; exact hv, r.mono (same_upd (w.sub.free h))⟩
theorem wt_own {K : PySem.W.Frag} {T : Tk} {t : Option Addr} {F H : Hp} {p : Addr} {o : HO} (w : Wt K T t F H) (h : H p = none) : Wt K T t F (upd H p o) := by
  refine ⟨w.sub.trans (same_upd h), fun a e => ?_⟩
  obtain ⟨n, vs, hv, r⟩ := w.tank a e
  exact ⟨n, vs, same_upd h a _ hv, r⟩
theorem Fin.tup {K : PySem.W.Frag} {t : Option Addr} {F H : Hp} {k : KD} {Q : VK} {T : Tk} {ds : List D} {vs : List V} {p : Addr} (f : Fin K t F H k Q) (w : Wt K T t F H) (r : RepL K F ds vs) (h : H p = none) (q : k (.tup ds) T) : Q (.ref p) (upd H p (.tup vs)) :=
  f _ _ (upd F p (.tup vs)) _ T (wt_new w h) (grow_new w.sub h) (.tup (.of upd_same) (r.mono (same_upd (w.sub.free h)))) q
theorem Fin.lst {K : PySem.W.Frag} {t : Option Addr} {F H : Hp} {k : KD} {Q : VK} {T : Tk} {ds : List D} {vs : List V} {p : Addr} (f : Fin K t F H k Q) (w : Wt K T t F H) (r : RepL K F ds vs) (h : H p = none) (q : k (.lst ds) T) : Q (.ref p) (upd H p (.lst vs)) :=
  f _ _ (upd F p (.lst vs)) _ T (wt_new w h) (grow_new w.sub h) (.lst upd_same (r.mono (same_upd (w.sub.free h)))) q
theorem rep_int {K : PySem.W.Frag} {F : Hp} {i : Int} {v : V} (r : Rep K F (.int i) v) : v = .int i := by cases r; rfl
theorem rep_bl {K : PySem.W.Frag} {F : Hp} {i : Bool} {v : V} (r : Rep K F (.bl i) v) : v = .bl i := by cases r; rfl
theorem rep_tup {K : PySem.W.Frag} {F : Hp} {ds : List D} {v : V} (r : Rep K F (.tup ds) v) : ∃ a vs, v = .ref a ∧ SqT K F a vs ∧ RepL K F ds vs := by cases r with | tup h q => exact ⟨_, _, rfl, h, q⟩
theorem rep_lst {K : PySem.W.Frag} {F : Hp} {ds : List D} {v : V} (r : Rep K F (.lst ds) v) : ∃ a vs, v = .ref a ∧ F a = some (.lst vs) ∧ RepL K F ds vs := by cases r with | lst h q => exact ⟨_, _, rfl, h, q⟩
theorem rep_scr {K : PySem.W.Frag} {F : Hp} {ds : List D} {v : V} (r : Rep K F (.scr ds) v) : ∃ a vs, v = .ref a ∧ SqL K F a vs ∧ RepL K F ds vs := by cases r with | scr h q => exact ⟨_, _, rfl, h, q⟩
end L2.G

namespace L2.G
open PySem PySem.Spec PyProof.Rows

section
variable {X : Cx}
/-! names, constants -/
def dVar (i : Nat) : dE := fun ρ T k => match ρ[i]? with | some (some (.val d)) => k d T | _ => False
theorem d_var (i : Nat) {x : Str} {pos : Pos} (hN : X.N[i]? = some x := by rfl) (hv : Vis X.env.scope x := by first | exact Or.inl rfl | exact Or.inr (Or.inl rfl) | exact Or.inr (Or.inr rfl))
    (hd : (x == ("__debug__" : Str)) = false := by decide) (hc : (x == ("__classdict__" : Str)) = false := by decide) : PEd X (.Name x pos) (dVar i) := by
  refine pe_imp (pe_var hN hv hd hc) fun σ H Q h => ?_
  obtain ⟨ρ, T, t, F, k, w, h, f⟩ := h
  unfold dVar at h
  split at h
  · rename_i d e
    obtain ⟨v, e1, r⟩ := w.slot i _ e
    exact ⟨v, e1, f.val w.wt r h⟩
  · exact h.elim
def dC (d : D) : dE := fun _ T k => k d T
theorem d_const {e : Expr} {v : V} {d : D} (h : PE X e (tC v)) (r : ∀ F, Rep X.K F d v) : PEd X e (dC d) := by
  refine pe_imp h fun σ H Q h => ?_
  obtain ⟨ρ, T, t, F, k, w, h, f⟩ := h
  exact f.val w.wt (r F) h
theorem d_int {i : Int} {j pos} : PEd X (.Constant (.int i) j pos) (dC (.int i)) := d_const pe_int fun _ => .int i
theorem d_bl {i : Bool} {j pos} : PEd X (.Constant (.bool i) j pos) (dC (.bl i)) := d_const pe_bl fun _ => .bl i
theorem d_non {j pos} : PEd X (.Constant .none j pos) (dC .non) := d_const pe_non fun _ => .non
theorem d_str {x : Str} {j pos} : PEd X (.Constant (.str x) j pos) (dC (.str x)) := d_const pe_str fun _ => .str x
/-- a constant of the module -/
theorem d_glob {x : Str} {v : V} {u : Value} {d : D} {pos : Pos} (hg : Gl X x) (hm : X.mg x = some u) (q : RelV v u) (r : ∀ F, Rep X.K F d v) (hd : (x == ("__debug__" : Str)) = false := by decide) : PEd X (.Name x pos) (dC d) :=
  d_const (pe_glob hg hm q hd) r

/-! two places -/
abbrev Op2 := D → D → (D → Prop) → Prop
def dOp (o : Op2) (fa fb : dE) : dE := fun ρ T k => fa ρ T fun x T1 => fb ρ T1 fun y T2 => o x y fun d => k d T2
def OpS (K : PySem.W.Frag) (r : R2) (o : Op2) : Prop := ∀ {t : Option Addr} {F H : Hp} {T : Tk} {x y : D} {v w : V} {k : KD} {Q : VK}, Wt K T t F H → Rep K F x v → Rep K F y w → o x y (fun d => k d T) → Fin K t F H k Q → r v w H Q
/-- two expressions, one behind the other -/
theorem two {K : PySem.W.Frag} {fa fb : dE} {o : D → D → Tk → KD → Prop} {σ : L2.St} {H : Hp} {Q : VK} {R : V → V → Hp → VK → Prop}
    (s : ∀ {t : Option Addr} {F H : Hp} {T : Tk} {x y : D} {v w : V} {k : KD}, Wt K T t F H → Rep K F x v → Rep K F y w → o x y T k → Fin K t F H k Q → R v w H Q)
    (h : tD K (fun ρ T k => fa ρ T fun x T1 => fb ρ T1 fun y T2 => o x y T2 k) σ H Q) : tD K fa σ H fun v H1 => tD K fb σ H1 fun w H2 => R v w H2 Q := by
  obtain ⟨ρ, T, t, F, k, w, h, f⟩ := h
  refine ⟨ρ, T, t, F, _, w, h, fun v H1 F1 x T1 w1 g1 r1 h1 => ?_⟩
  refine ⟨ρ, T1, t, F1, _, w.grow g1 w1, h1, fun u H2 F2 y T2 w2 g2 r2 h2 => ?_⟩
  exact s w2 (r1.mono g2.sub) r2 h2 (f.then (g1.trans g2))
theorem d_op {op : Operator} {r : R2} {o : Op2} {a b : Expr} {fa fb : dE} {pos : Pos} (ho : OpR X (binaryOp op) r) (s : OpS X.K r o) (ha : PEd X a fa) (hb : PEd X b fb) : PEd X (.BinOp a op b pos) (dOp o fa fb) :=
  pe_imp (pe_op ho ha hb) fun σ H Q h => two (o := fun x y T k => o x y fun d => k d T) (fun w r1 r2 q f => s w r1 r2 q f) h
theorem d_cmp {op : CmpOp} {r : R2} {o : Op2} {a b : Expr} {fa fb : dE} {pos : Pos} (ho : OpR X (compareOp op) r) (s : OpS X.K r o) (ha : PEd X a fa) (hb : PEd X b fb) (hm : behindInMarks op b = false) : PEd X (.Compare a [op] [b] pos) (dOp o fa fb) :=
  pe_imp (pe_cmpR ho ha hb hm) fun σ H Q h => two (o := fun x y T k => o x y fun d => k d T) (fun w r1 r2 q f => s w r1 r2 q f) h

/-- ints -/
def oI (g : Int → Int → Int) : Op2 := fun x y k => match x, y with | .int i, .int j => k (.int (g i j)) | _, _ => False
def oIC (C : Int → Int → Prop) (g : Int → Int → Int) : Op2 := fun x y k => match x, y with | .int i, .int j => C i j ∧ k (.int (g i j)) | _, _ => False
def oB (g : Int → Int → Bool) : Op2 := fun x y k => match x, y with | .int i, .int j => k (.bl (g i j)) | _, _ => False
theorem oI_ok {K : PySem.W.Frag} {g : Int → Int → Int} : OpS K (rI0 fun i j => .int (g i j)) (oI g) := by
  intro t F H T x y v w k Q wt r1 r2 q f
  unfold oI at q
  split at q
  · cases r1; cases r2; exact ⟨_, _, rfl, rfl, f.val wt (.int _) q⟩
  · exact q.elim
theorem oIC_ok {K : PySem.W.Frag} {C : Int → Int → Prop} {g : Int → Int → Int} : OpS K (rI C fun i j => .int (g i j)) (oIC C g) := by
  intro t F H T x y v w k Q wt r1 r2 q f
  unfold oIC at q
  split at q
  · cases r1; cases r2; exact ⟨_, _, rfl, rfl, q.1, f.val wt (.int _) q.2⟩
  · exact q.elim
theorem oB_ok {K : PySem.W.Frag} {g : Int → Int → Bool} : OpS K (rI0 fun i j => .bl (g i j)) (oB g) := by
  intro t F H T x y v w k Q wt r1 r2 q f
  unfold oB at q
  split at q
  · cases r1; cases r2; exact ⟨_, _, rfl, rfl, f.val wt (.bl _) q⟩
  · exact q.elim
/-- sizes -/
def MulOk (i j : Int) : Prop := (i.natAbs < 2 ^ 64 ∨ j.natAbs < 2 ^ 64) ∨ (i.natAbs < 2 ^ 400000 ∧ j.natAbs < 2 ^ 400000)
def DivOk (_ j : Int) : Prop := 0 < j ∧ j.natAbs < 2 ^ 9000
theorem mulQ_of {i j : Int} (h : MulOk i j) : IntMulOk i j := by
  rcases h with h | h
  · exact CMul.ok (h.elim (fun h => .inl (by omega)) fun h => .inr (by omega))
  · exact (wide_mul h.1 h.2 (by decide) (by decide) (by decide)).ok
theorem divW_of {i j : Int} (h : DivOk i j) : CDivW i j := wide_div h.1 h.2 (by decide) (by decide)
theorem op_mulQ : OpR X (binaryOp .Mult) (rI MulOk fun i j => .int (i * j)) := opI fun _ _ _ _ _ _ _ hc q => mul_int q (mulQ_of hc)
theorem op_divQ : OpR X (binaryOp .FloorDiv) (rI DivOk fun i j => .int (i / j)) := fun pins s σ H x y v u Q I rx ry ⟨i, j, e1, e2, c, q⟩ => op_fdivW pins s σ H x y v u Q I rx ry ⟨i, j, e1, e2, divW_of c, q⟩
variable {a b : Expr} {fa fb : dE} {pos : Pos}
/-- -a -/
def dNeg (fa : dE) : dE := fun ρ T k => fa ρ T fun x T1 => match x with | .int i => k (.int (-i)) T1 | _ => False
theorem d_neg (ha : PEd X a fa) : PEd X (.UnaryOp .USub a pos) (dNeg fa) := by
  refine pe_imp (pe_un un_neg ha) fun σ H Q h => ?_
  obtain ⟨ρ, T, t, F, k, w, h, f⟩ := h
  refine ⟨ρ, T, t, F, _, w, h, fun v H1 F1 x T1 w1 g1 r1 h1 => ?_⟩
  split at h1
  · cases r1; exact ⟨_, rfl, (f.then g1).val w1 (.int _) h1⟩
  · exact h1.elim

/-! equality of data -/
mutual
def D.py : D → PyData
  | .non => .none | .bl b => .bool b | .int i => .int i | .str x => .str x | .tup xs => .tuple (D.pyL xs) | .lst xs => .list (D.pyL xs) | .obj _ _ _ => .dict [] | .ref _ => .dict [] | .scr _ => .dict [] | .dct _ _ => .dict []
def D.pyL : List D → List PyData
  | [] => [] | x :: r => x.py :: D.pyL r
end
mutual
def D.isPy : D → Bool
  | .non => true | .bl _ => true | .int _ => true | .str _ => true | .tup xs => D.isPyL xs | .lst xs => D.isPyL xs | .obj _ _ _ => false | .ref _ => false | .scr _ => false | .dct _ _ => false
def D.isPyL : List D → Bool
  | [] => true | x :: r => x.isPy && D.isPyL r
end
mutual
theorem Rep.dp {K : PySem.W.Frag} {F H : Hp} (s : Same F H) : ∀ {d : D} {v : V}, Rep K F d v → d.isPy = true → Dp K H v d.py
  | _, _, .non, _ => .non
  | _, _, .bl b, _ => .bl b
  | _, _, .int i, _ => .int i
  | _, _, .str x, _ => .str x
  | _, _, .tup h q, p => .tup (same_t s h) (RepL.dp s q (by simpa [D.isPy] using p))
  | _, _, .lst h q, p => .lst (.of (s _ _ h)) (RepL.dp s q (by simpa [D.isPy] using p))
  | _, _, .obj _ _ _, p => by simp [D.isPy] at p
  | _, _, .ref _ _, p => by simp [D.isPy] at p
  | _, _, .scr _ _, p => by simp [D.isPy] at p
  | _, _, .dct _ _ _, p => by simp [D.isPy] at p
theorem RepL.dp {K : PySem.W.Frag} {F H : Hp} (s : Same F H) : ∀ {ds : List D} {vs : List V}, RepL K F ds vs → D.isPyL ds = true → DpAll K H vs (D.pyL ds)
  | _, _, .nil, _ => .nil
  | _, _, .cons h q, p => by
    simp only [D.isPyL, Bool.and_eq_true] at p
    exact .cons (Rep.dp s h p.1) (RepL.dp s q p.2)
end
/-- data that == compares -/
def D.eqOk (d : D) : Prop := d.isPy = true ∧ SeqAt.shaped d.py = true
def eqD (x y : D) : Bool := PyData.eqv x.py y.py
def oEq : Op2 := fun x y k => x.eqOk ∧ y.eqOk ∧ k (.bl (eqD x y))
def oNe : Op2 := fun x y k => x.eqOk ∧ y.eqOk ∧ k (.bl (!eqD x y))
theorem oEq_ok {K : PySem.W.Frag} : OpS K (rEqD K) oEq := fun wt r1 r2 ⟨p1, p2, q⟩ f => ⟨_, _, r1.dp wt.sub p1.1, r2.dp wt.sub p2.1, p1.2, p2.2, f.val wt (.bl _) q⟩
theorem oNe_ok {K : PySem.W.Frag} : OpS K (rNeD K) oNe := fun wt r1 r2 ⟨p1, p2, q⟩ f => ⟨_, _, r1.dp wt.sub p1.1, r2.dp wt.sub p2.1, p1.2, p2.2, f.val wt (.bl _) q⟩
/-- == of two ints, two texts, None .. (scalars) -/
def oEqI : Op2 := fun x y k => match x, y with | .int i, .int j => k (.bl (decide (i = j))) | .str i, .str j => k (.bl (decide (i = j))) | .bl i, .bl j => k (.bl (decide (i = j))) | _, _ => False
def oNeI : Op2 := fun x y k => match x, y with | .int i, .int j => k (.bl (!decide (i = j))) | .str i, .str j => k (.bl (!decide (i = j))) | .bl i, .bl j => k (.bl (!decide (i = j))) | _, _ => False
theorem oEqI_ok {K : PySem.W.Frag} : OpS K rEq oEqI := by
  intro t F H T x y v w k Q wt r1 r2 q f
  unfold oEqI at q
  split at q
  · cases r1; cases r2; exact ⟨rfl, by have := f.val wt (.bl _) q; simpa using this⟩
  · cases r1; cases r2; exact ⟨rfl, by have := f.val wt (.bl _) q; simpa using this⟩
  · cases r1; cases r2; exact ⟨rfl, by have := f.val wt (.bl _) q; simpa using this⟩
  · exact q.elim
theorem oNeI_ok {K : PySem.W.Frag} : OpS K rNe oNeI := by
  intro t F H T x y v w k Q wt r1 r2 q f
  unfold oNeI at q
  split at q
  · cases r1; cases r2; exact ⟨rfl, by have := f.val wt (.bl _) q; simpa using this⟩
  · cases r1; cases r2; exact ⟨rfl, by have := f.val wt (.bl _) q; simpa using this⟩
  · cases r1; cases r2; exact ⟨rfl, by have := f.val wt (.bl _) q; simpa using this⟩
  · exact q.elim
/-- is None -/
def D.isNon : D → Bool | .non => true | _ => false
theorem rep_isNon {K : PySem.W.Frag} {F : Hp} {d : D} {v : V} (r : Rep K F d v) : decide (v = .non) = d.isNon := by cases r <;> rfl
def dIsN (fa : dE) : dE := fun ρ T k => fa ρ T fun x T1 => k (.bl x.isNon) T1
def dNotN (fa : dE) : dE := fun ρ T k => fa ρ T fun x T1 => k (.bl (!x.isNon)) T1
theorem d_isN {j pos'} (ha : PEd X a fa) : PEd X (.Compare a [.Is] [.Constant .none j pos'] pos) (dIsN fa) := by
  refine pe_imp (pe_cmp (pc_isN ha)) fun σ H Q h => ?_
  obtain ⟨ρ, T, t, F, k, w, h, f⟩ := h
  refine ⟨ρ, T, t, F, _, w, h, fun v H1 F1 x T1 w1 g1 r1 h1 => ?_⟩
  show Q (V.bl (decide (v = V.non))) H1
  rw [rep_isNon r1]
  exact (f.then g1).val w1 (.bl _) h1
/-! tests -/
def dTst (fa : dE) : dT := fun ρ T k => fa ρ T fun x T1 => match x with | .bl c => k c T1 | _ => False
theorem d_tst (ha : PEd X a fa) (he : ∀ whole, isTrue a X.env whole = (do let v ← whole; standAt a.pos; holding [v] (truthy v)) := by intro _; rfl) : PTd X a (dTst fa) := by
  refine pt_imp (pt_val ha he) fun σ H Q h => ?_
  obtain ⟨ρ, T, t, F, k, w, h, f⟩ := h
  refine ⟨ρ, T, t, F, _, w, h, fun v H1 F1 x T1 w1 g1 r1 h1 => ?_⟩
  split at h1
  · cases r1; exact ⟨_, rfl, f _ _ _ _ w1 g1 h1⟩
  · exact h1.elim
/-- a comparison of two, as a test -/
theorem d_tcmp {op : CmpOp} {r : R2} {o : Op2} (ho : OpR X (compareOp op) r) (s : OpS X.K r o) (ha : PEd X a fa) (hb : PEd X b fb) (hm : behindInMarks op b = false) : PTd X (.Compare a [op] [b] pos) (dTst (dOp o fa fb)) := by
  refine pt_imp (pt_cmpR ho ha hb hm) fun σ H Q h => ?_
  obtain ⟨ρ, T, t, F, k, w, h, f⟩ := h
  have h' : tD X.K (dOp o fa fb) σ H (fun x H' => ∃ c, x = .bl c ∧ Q c H') := by
    refine ⟨ρ, T, t, F, _, w, h, fun v H1 F1 x T1 w1 g1 r1 h1 => ?_⟩
    split at h1
    · cases r1; exact ⟨_, rfl, f _ _ _ _ w1 g1 h1⟩
    · exact h1.elim
  exact two (o := fun x y T k => o x y fun d => k d T) (fun w r1 r2 q f => s w r1 r2 q f) h'
abbrev PWd (X : Cx) (e : Expr) (f : dT) : Prop := PW X e (tDT X.K f)
variable {ta tb : dT} {rest : List Expr}
def dAnd (ta tb : dT) : dT := fun ρ T k => ta ρ T fun c T1 => if c = true then tb ρ T1 k else k false T1
def dOr (ta tb : dT) : dT := fun ρ T k => ta ρ T fun c T1 => if c = true then k true T1 else tb ρ T1 k
def dNot (ta : dT) : dT := fun ρ T k => ta ρ T fun c T1 => k (!c) T1
theorem d_tnot (ha : PTd X a ta) : PTd X (.UnaryOp .Not a pos) (dNot ta) := by
  refine pt_imp (pt_not ha) fun σ H Q h => ?_
  obtain ⟨ρ, T, t, F, k, w, h, f⟩ := h
  exact ⟨ρ, T, t, F, _, w, h, fun v H1 F1 T1 w1 g1 h1 => f _ _ _ _ w1 g1 h1⟩
theorem d_w1a (ha : PTd X a ta) : PWd X (.BoolOp .And [a] pos) ta := pw_and1 ha
theorem d_w1o (ha : PTd X a ta) : PWd X (.BoolOp .Or [a] pos) ta := pw_or1 ha
theorem d_wand (ha : PTd X a ta) (hb : PWd X (.BoolOp .And (b :: rest) pos) tb) : PWd X (.BoolOp .And (a :: b :: rest) pos) (dAnd ta tb) := by
  refine pw_imp (pw_and ha hb) fun σ H Q h => ?_
  obtain ⟨ρ, T, t, F, k, w, h, f⟩ := h
  refine ⟨ρ, T, t, F, _, w, h, fun c H1 F1 T1 w1 g1 h1 => ?_⟩
  cases c with
  | true => exact ⟨ρ, T1, t, F1, k, w.grow g1 w1, h1, fun b H2 F2 T2 w2 g2 h2 => f _ _ _ _ w2 (g1.trans g2) h2⟩
  | false => exact f _ _ _ _ w1 g1 h1
theorem d_wor (ha : PTd X a ta) (hb : PWd X (.BoolOp .Or (b :: rest) pos) tb) : PWd X (.BoolOp .Or (a :: b :: rest) pos) (dOr ta tb) := by
  refine pw_imp (pw_or ha hb) fun σ H Q h => ?_
  obtain ⟨ρ, T, t, F, k, w, h, f⟩ := h
  refine ⟨ρ, T, t, F, _, w, h, fun c H1 F1 T1 w1 g1 h1 => ?_⟩
  cases c with
  | false => exact ⟨ρ, T1, t, F1, k, w.grow g1 w1, h1, fun b H2 F2 T2 w2 g2 h2 => f _ _ _ _ w2 (g1.trans g2) h2⟩
  | true => exact f _ _ _ _ w1 g1 h1
/-- and, or, not as values of truth -/
def dAndV (fa fb : dE) : dE := fun ρ T k => fa ρ T fun x T1 => match x with | .bl c => if c = true then fb ρ T1 k else k (.bl false) T1 | _ => False
def dOrV (fa fb : dE) : dE := fun ρ T k => fa ρ T fun x T1 => match x with | .bl c => if c = true then k (.bl true) T1 else fb ρ T1 k | _ => False
def dNotV (fa : dE) : dE := fun ρ T k => fa ρ T fun x T1 => match x with | .bl c => k (.bl (!c)) T1 | _ => False
theorem d_v1 {op} (ha : PEd X a fa) : PEd X (.BoolOp op [a] pos) fa := pe_one ha
theorem d_andV (ha : PEd X a fa) (hb : PEd X (.BoolOp .And (b :: rest) pos) fb) : PEd X (.BoolOp .And (a :: b :: rest) pos) (dAndV fa fb) := by
  refine pe_imp (pe_and ha hb) fun σ H Q h => ?_
  obtain ⟨ρ, T, t, F, k, w, h, f⟩ := h
  refine ⟨ρ, T, t, F, _, w, h, fun v H1 F1 x T1 w1 g1 r1 h1 => ?_⟩
  split at h1
  · rename_i c
    cases r1
    refine ⟨c, rfl, ?_⟩
    cases c with
    | true => exact ⟨ρ, T1, t, F1, k, w.grow g1 w1, h1, f.then g1⟩
    | false => exact (f.then g1).val w1 (.bl _) h1
  · exact h1.elim
theorem d_orV (ha : PEd X a fa) (hb : PEd X (.BoolOp .Or (b :: rest) pos) fb) : PEd X (.BoolOp .Or (a :: b :: rest) pos) (dOrV fa fb) := by
  refine pe_imp (pe_or ha hb) fun σ H Q h => ?_
  obtain ⟨ρ, T, t, F, k, w, h, f⟩ := h
  refine ⟨ρ, T, t, F, _, w, h, fun v H1 F1 x T1 w1 g1 r1 h1 => ?_⟩
  split at h1
  · rename_i c
    cases r1
    refine ⟨c, rfl, ?_⟩
    cases c with
    | false => exact ⟨ρ, T1, t, F1, k, w.grow g1 w1, h1, f.then g1⟩
    | true => exact (f.then g1).val w1 (.bl _) h1
  · exact h1.elim
theorem d_notV (ha : PEd X a fa) : PEd X (.UnaryOp .Not a pos) (dNotV fa) := by
  refine pe_imp (pe_not ha) fun σ H Q h => ?_
  obtain ⟨ρ, T, t, F, k, w, h, f⟩ := h
  refine ⟨ρ, T, t, F, _, w, h, fun v H1 F1 x T1 w1 g1 r1 h1 => ?_⟩
  split at h1
  · cases r1; exact ⟨_, rfl, (f.then g1).val w1 (.bl _) h1⟩
  · exact h1.elim
def dIf (t : dT) (fa fb : dE) : dE := fun ρ T k => t ρ T fun c T1 => if c = true then fa ρ T1 k else fb ρ T1 k
theorem d_if {c : Expr} {tc : dT} (hc : PTd X c tc) (ha : PEd X a fa) (hb : PEd X b fb) : PEd X (.IfExp c a b pos) (dIf tc fa fb) := by
  refine pe_imp (pe_ifExp hc ha hb) fun σ H Q h => ?_
  obtain ⟨ρ, T, t, F, k, w, h, f⟩ := h
  refine ⟨ρ, T, t, F, _, w, h, fun c H1 F1 T1 w1 g1 h1 => ?_⟩
  cases c with
  | true => exact ⟨ρ, T1, t, F1, k, w.grow g1 w1, h1, f.then g1⟩
  | false => exact ⟨ρ, T1, t, F1, k, w.grow g1 w1, h1, f.then g1⟩

/-! arguments, displays -/
def aNil : dA := fun _ T k => k [] T
def aCons (fe : dE) (fr : dA) : dA := fun ρ T k => fe ρ T fun d T1 => fr ρ T1 fun as T2 => k (.val d :: as) T2
def aTank (i : Nat) (fr : dA) : dA := fun ρ T k => (match ρ[i]? with | some (some .tank) => True | _ => False) ∧ fr ρ T fun as T2 => k (.tank :: as) T2
variable {es : List Expr} {fr : dA}
theorem a_nil : PAd X [] aNil := by
  refine pa_imp pa_nil fun σ H Q h => ?_
  obtain ⟨ρ, T, t, F, k, w, h, f⟩ := h
  exact f _ _ _ _ _ w.wt (Grow.refl _ _ _) .nil h
theorem a_cons {e : Expr} {fe : dE} (he : PEd X e fe) (hr : PAd X es fr) (hs : starEach (e :: es) X.env = (false, eval e X.env) :: starEach es X.env := by rfl) : PAd X (e :: es) (aCons fe fr) := by
  refine pa_imp (pa_cons he hr hs) fun σ H Q h => ?_
  obtain ⟨ρ, T, t, F, k, w, h, f⟩ := h
  refine ⟨ρ, T, t, F, _, w, h, fun v H1 F1 x T1 w1 g1 r1 h1 => ?_⟩
  refine ⟨ρ, T1, t, F1, _, w.grow g1 w1, h1, fun vs H2 F2 as T2 w2 g2 r2 h2 => ?_⟩
  exact f _ _ _ _ _ w2 (g1.trans g2) (.val (r1.mono g2.sub) r2) h2
theorem a_tank (i : Nat) {x : Str} {p : Pos} (hr : PAd X es fr) (hN : X.N[i]? = some x := by rfl) (hv : Vis X.env.scope x := by first | exact Or.inl rfl | exact Or.inr (Or.inl rfl) | exact Or.inr (Or.inr rfl))
    (hd : (x == ("__debug__" : Str)) = false := by decide) (hc : (x == ("__classdict__" : Str)) = false := by decide)
    (hs : starEach (.Name x p :: es) X.env = (false, eval (.Name x p) X.env) :: starEach es X.env := by rfl) : PAd X (.Name x p :: es) (aTank i fr) := by
  refine pa_imp (pa_cons (pe_var hN hv hd hc) hr hs) fun σ H Q h => ?_
  obtain ⟨ρ, T, t, F, k, w, ⟨h0, h⟩, f⟩ := h
  split at h0
  · rename_i e
    obtain ⟨v, e1, a, e2, e3⟩ := w.slot i _ e
    subst e3
    exact ⟨_, e1, ρ, T, t, F, _, w, h, fun vs H2 F2 as T2 w2 g2 r2 h2 => f _ _ _ _ _ w2 g2 (.tank e2 r2) h2⟩
  · exact h0.elim
def vals? : List SV → Option (List D)
  | [] => some []
  | .val d :: r => (vals? r).map (d :: ·)
  | _ :: _ => none
theorem ArgL.vals {K : PySem.W.Frag} {t : Option Addr} {F : Hp} : ∀ {as : List SV} {vs : List V} {ds : List D}, ArgL K t F as vs → vals? as = some ds → RepL K F ds vs
  | _, _, _, .nil, e => by cases e; exact .nil
  | _, _, ds, .val r q, e => by
    simp only [vals?, Option.map_eq_some_iff] at e
    obtain ⟨es, h1, rfl⟩ := e
    exact .cons r (q.vals h1)
  | _, _, _, .tank _ _, e => by simp [vals?] at e
def dTup (fr : dA) : dE := fun ρ T k => fr ρ T fun as T1 => match vals? as with | some ds => ds.length ≤ 1000000 ∧ k (.tup ds) T1 | none => False
def dLst (fr : dA) : dE := fun ρ T k => fr ρ T fun as T1 => match vals? as with | some ds => ds.length ≤ 1000000 ∧ k (.lst ds) T1 | none => False
theorem small_line {n : Nat} (h : n ≤ 1000000) : n ≤ sizeLine := by rw [sizeLine_eq]; omega
theorem d_tup {x1} (h : PAd X es fr) : PEd X (.Tuple es x1 pos) (dTup fr) := by
  refine pe_imp (pe_tup h) fun σ H Q h => ?_
  obtain ⟨ρ, T, t, F, k, w, h, f⟩ := h
  refine ⟨ρ, T, t, F, _, w, h, fun vs H1 F1 as T1 w1 g1 r1 h1 => ?_⟩
  split at h1
  · rename_i ds e
    have r := r1.vals e
    exact ⟨by rw [← r.len]; exact small_line h1.1, fun p hp => (f.then g1).tup w1 r hp h1.2⟩
  · exact h1.elim
theorem d_lst (h : PAd X es fr) : PEd X (.List es pos) (dLst fr) := by
  refine pe_imp (pe_lst h) fun σ H Q h => ?_
  obtain ⟨ρ, T, t, F, k, w, h, f⟩ := h
  refine ⟨ρ, T, t, F, _, w, h, fun vs H1 F1 as T1 w1 g1 r1 h1 => ?_⟩
  split at h1
  · rename_i ds e
    have r := r1.vals e
    exact ⟨by rw [← r.len]; exact small_line h1.1, fun p hp => (f.then g1).lst w1 r hp h1.2⟩
  · exact h1.elim

/-! items, slices -/
def oIx : Op2 := fun x y k => match x, y with
  | .tup xs, .int i => (match atI xs i with | some d => k d | none => False)
  | .lst xs, .int i => (match atI xs i with | some d => k d | none => False)
  | .scr xs, .int i => (match atI xs i with | some d => k d | none => False)
  | _, _ => False
theorem atI_rep {K : PySem.W.Frag} {F : Hp} {xs : List D} {vs : List V} {i : Int} {d : D} (r : RepL K F xs vs) (h : atI xs i = some d) : ∃ v, atI vs i = some v ∧ Rep K F d v := by
  unfold atI at h ⊢
  rw [← r.len]
  cases e : ixN xs.length i with
  | none => rw [e] at h; cases h
  | some j =>
    rw [e] at h
    exact r.get h
theorem oIx_ok {K : PySem.W.Frag} : OpS K (fun x y H Q => rIxL K x y H Q ∨ rIxT K x y H Q) oIx := by
  intro t F H T x y v w k Q wt r1 r2 q f
  unfold oIx at q
  split at q
  · split at q
    · rename_i d e
      obtain ⟨a, vs, rfl, h, r⟩ := rep_tup r1
      cases r2
      obtain ⟨v, e1, rv⟩ := atI_rep r e
      exact .inr ⟨a, vs, _, v, rfl, rfl, same_t wt.sub h, e1, f.val wt rv q⟩
    · exact q.elim
  · split at q
    · rename_i d e
      obtain ⟨a, vs, rfl, h, r⟩ := rep_lst r1
      cases r2
      obtain ⟨v, e1, rv⟩ := atI_rep r e
      exact .inl ⟨a, vs, _, v, rfl, rfl, .of (wt.sub _ _ h), e1, f.val wt rv q⟩
    · exact q.elim
  · split at q
    · rename_i d e
      obtain ⟨a, vs, rfl, h, r⟩ := rep_scr r1
      cases r2
      obtain ⟨v, e1, rv⟩ := atI_rep r e
      exact .inl ⟨a, vs, _, v, rfl, rfl, wt.sub.seq h, e1, f.val wt rv q⟩
    · exact q.elim
  · exact q.elim
end
end L2.G

namespace L2.G
open PySem PySem.Spec PyProof.Rows

/-! statements: F0, H0 the entry's heaps -/
structure Ws (K : PySem.W.Frag) (ρ : En) (T : Tk) (t : Option Addr) (σ : L2.St) (F0 H0 F H : Hp) : Prop where
  w : Wd K ρ T t σ F H
  g : Grow t F0 H0 F H
  fr : ∀ (i : Nat) xs l, ρ[i]? = some (some (.own xs)) → σ[i]? = some (some (.ref l)) → H0 l = none
theorem Ws.grow {K : PySem.W.Frag} {ρ : En} {T T' : Tk} {t : Option Addr} {σ : L2.St} {F0 H0 F H F' H' : Hp} (w : Ws K ρ T t σ F0 H0 F H) (g : Grow t F H F' H') (w' : Wt K T' t F' H') : Ws K ρ T' t σ F0 H0 F' H' :=
  ⟨w.w.grow g w', w.g.trans g, w.fr⟩
def FinS (K : PySem.W.Frag) (t : Option Addr) (F0 H0 F : Hp) (k : En → Tk → Prop) (n : L2.St → Hp → Prop) : Prop := ∀ ρ T σ F' H', Ws K ρ T t σ F0 H0 F' H' → Same F F' → k ρ T → n σ H'
def FinR (K : PySem.W.Frag) (t : Option Addr) (F0 H0 : Hp) (k : KD) (n : VK) : Prop := ∀ v H F d T, Wt K T t F H → Grow t F0 H0 F H → Rep K F d v → k d T → n v H
structure FinE (K : PySem.W.Frag) (t : Option Addr) (F0 H0 F : Hp) (k : dEnds) (E : Ends) : Prop where
  nx : FinS K t F0 H0 F k.nx E.nx
  rt : FinR K t F0 H0 k.rt E.rt
  bk : FinS K t F0 H0 F k.bk E.bk
  ct : FinS K t F0 H0 F k.ct E.ct
theorem FinS.to {K : PySem.W.Frag} {t : Option Addr} {F0 H0 F F1 : Hp} {k : En → Tk → Prop} {n : L2.St → Hp → Prop} (f : FinS K t F0 H0 F k n) (s : Same F F1) : FinS K t F0 H0 F1 k n := fun ρ T σ F' H' w e q => f ρ T σ F' H' w (s.trans e) q
theorem FinE.to {K : PySem.W.Frag} {t : Option Addr} {F0 H0 F F1 : Hp} {k : dEnds} {E : Ends} (f : FinE K t F0 H0 F k E) (s : Same F F1) : FinE K t F0 H0 F1 k E := ⟨f.nx.to s, f.rt, f.bk.to s, f.ct.to s⟩
def tDS (K : PySem.W.Frag) (f : dS) : TS := fun E σ H => ∃ ρ T t F0 H0 F k, Ws K ρ T t σ F0 H0 F H ∧ f k ρ T ∧ FinE K t F0 H0 F k E
abbrev PSd (X : Cx) (st : Stmt) (f : dS) : Prop := PS X st (tDS X.K f)
abbrev PSsd (X : Cx) (st : List Stmt) (f : dS) : Prop := PSs X st (tDS X.K f)

section
variable {X : Cx} {st : Stmt} {rest : List Stmt} {f g : dS} {e : Expr} {fe : dE} {pos : Pos}
def sSeq (f g : dS) : dS := fun k ρ T => f { k with nx := g k } ρ T
theorem ss_cons (h1 : PSd X st f) (h2 : PSsd X rest g) : PSsd X (st :: rest) (sSeq f g) := by
  refine pss_imp (pss_cons h1 h2) fun E σ H h => ?_
  obtain ⟨ρ, T, t, F0, H0, F, k, w, h, fe⟩ := h
  exact ⟨ρ, T, t, F0, H0, F, _, w, h, ⟨fun ρ' T' σ' F' H' w' s' h' => ⟨ρ', T', t, F0, H0, F', k, w', h', fe.to s'⟩, fe.rt, fe.bk, fe.ct⟩⟩
theorem ss_one (h1 : PSd X st f) : PSsd X [st] f := pss_one h1
theorem ss_nil : PSsd X [] (fun k ρ T => k.nx ρ T) := by
  refine pss_imp pss_nil fun E σ H h => ?_
  obtain ⟨ρ, T, t, F0, H0, F, k, w, h, fe⟩ := h
  exact fe.nx _ _ _ _ _ w (Same.refl _) h
def sRet (fe : dE) : dS := fun k ρ T => fe ρ T k.rt
theorem s_ret (he : PEd X e fe) : PSd X (.Return (some e) pos) (sRet fe) := by
  refine ps_imp (ps_ret he) fun E σ H h => ?_
  obtain ⟨ρ, T, t, F0, H0, F, k, w, h, fe⟩ := h
  exact ⟨ρ, T, t, F, _, w.w, h, fun v H1 F1 d T1 w1 g1 r1 h1 => fe.rt _ _ _ _ _ w1 (w.g.trans g1) r1 h1⟩
def sExpr (fe : dE) : dS := fun k ρ T => fe ρ T fun _ T1 => k.nx ρ T1
theorem s_expr (he : PEd X e fe) (hs : swapsWith e none pos.line X.env = pure false := by rfl) : PSd X (.Expr e pos) (sExpr fe) := by
  refine ps_imp (ps_expr he hs) fun E σ H h => ?_
  obtain ⟨ρ, T, t, F0, H0, F, k, w, h, fe⟩ := h
  exact ⟨ρ, T, t, F, _, w.w, h, fun v H1 F1 d T1 w1 g1 r1 h1 => fe.nx _ _ _ _ _ (w.grow g1 w1) g1.sub h1⟩
def sIf (c : dT) (f g : dS) : dS := fun k ρ T => c ρ T fun b T1 => if b = true then f k ρ T1 else g k ρ T1
theorem s_if {c : Expr} {tc : dT} {a b : List Stmt} (hc : PTd X c tc) (ha : PSsd X a f) (hb : PSsd X b g) : PSd X (.If c a b pos) (sIf tc f g) := by
  refine ps_imp (ps_if hc ha hb) fun E σ H h => ?_
  obtain ⟨ρ, T, t, F0, H0, F, k, w, h, fe⟩ := h
  refine ⟨ρ, T, t, F, _, w.w, h, fun b H1 F1 T1 w1 g1 h1 => ?_⟩
  cases b with
  | true => exact ⟨ρ, T1, t, F0, H0, F1, k, w.grow g1 w1, h1, fe.to g1.sub⟩
  | false => exact ⟨ρ, T1, t, F0, H0, F1, k, w.grow g1 w1, h1, fe.to g1.sub⟩
theorem s_never : PSd X st (fun _ _ _ => False) := by
  refine ps_imp ps_never fun E σ H h => ?_
  obtain ⟨ρ, T, t, F0, H0, F, k, w, h, fe⟩ := h
  exact h.elim
/-! storing a value in a slot -/
theorem getSet {α : Type} {l : List α} {i j : Nat} {a : α} {b : α} (h : (l.set i a)[j]? = some b) : (i = j ∧ i < l.length ∧ b = a) ∨ (i ≠ j ∧ l[j]? = some b) := by
  by_cases e : i = j
  · subst e
    by_cases hl : i < l.length
    · rw [List.getElem?_set_self hl] at h; cases h; exact .inl ⟨rfl, hl, rfl⟩
    · rw [List.getElem?_eq_none (by simpa using hl)] at h; cases h
  · rw [List.getElem?_set_ne e] at h; exact .inr ⟨e, h⟩
theorem Wd.put {K : PySem.W.Frag} {ρ : En} {T : Tk} {t : Option Addr} {σ : L2.St} {F H : Hp} (w : Wd K ρ T t σ F H) {i : Nat} {d : D} {v : V} (r : Rep K F d v) : Wd K (ρ.set i (some (.val d))) T t (σ.set i (some v)) F H := by
  refine ⟨w.wt, by simpa using w.len, fun j s e => ?_, fun j j' xs ys l e1 e2 e3 e4 => ?_⟩
  · rcases getSet e with ⟨rfl, hl, e'⟩ | ⟨ne, e'⟩
    · cases e'
      exact ⟨v, by rw [List.getElem?_set_self (by rw [← w.len]; exact hl)], r⟩
    · obtain ⟨u, h1, h2⟩ := w.slot j s e'
      exact ⟨u, by rw [List.getElem?_set_ne ne]; exact h1, h2⟩
  · rcases getSet e1 with ⟨_, _, z⟩ | ⟨n1, e1⟩
    · cases z
    · rcases getSet e2 with ⟨_, _, z⟩ | ⟨n2, e2⟩
      · cases z
      · rw [List.getElem?_set_ne n1] at e3
        rw [List.getElem?_set_ne n2] at e4
        exact w.apart j j' xs ys l e1 e2 e3 e4
theorem Ws.put {K : PySem.W.Frag} {ρ : En} {T : Tk} {t : Option Addr} {σ : L2.St} {F0 H0 F H : Hp} (w : Ws K ρ T t σ F0 H0 F H) {i : Nat} {d : D} {v : V} (r : Rep K F d v) : Ws K (ρ.set i (some (.val d))) T t (σ.set i (some v)) F0 H0 F H := by
  refine ⟨w.w.put r, w.g, fun j xs l e1 e2 => ?_⟩
  rcases getSet e1 with ⟨_, _, z⟩ | ⟨ne, e1⟩
  · cases z
  · rw [List.getElem?_set_ne ne] at e2
    exact w.fr j xs l e1 e2

/-! targets -/
abbrev dG := D → En → Tk → (En → Tk → Prop) → Prop
def tDG (K : PySem.W.Frag) (g : dG) : TG := fun v σ H Q => ∃ ρ T t F0 H0 F d k, Ws K ρ T t σ F0 H0 F H ∧ Rep K F d v ∧ g d ρ T k ∧ FinS K t F0 H0 F k Q
abbrev PGd (X : Cx) (tg : Expr) (g : dG) : Prop := PG X tg (tDG X.K g)
abbrev dGs := List D → En → Tk → (En → Tk → Prop) → Prop
def tDGs (K : PySem.W.Frag) (g : dGs) : TGs := fun vs σ H Q => ∃ ρ T t F0 H0 F ds k, Ws K ρ T t σ F0 H0 F H ∧ RepL K F ds vs ∧ g ds ρ T k ∧ FinS K t F0 H0 F k Q
theorem pg_imp {tg : Expr} {t u : TG} (h : PG X tg t) (i : ∀ v σ H Q, u v σ H Q → t v σ H Q) : PG X tg u := ⟨fun pins s σ H v u Q I r q => h.run pins s σ H v u Q I r (i _ _ _ _ q)⟩
theorem pgs_imp {tg : List Expr} {t u : TGs} (h : PGs X tg t) (i : ∀ v σ H Q, u v σ H Q → t v σ H Q) : PGs X tg u := ⟨fun pins s σ H v u Q I r q => h.run pins s σ H v u Q I r (i _ _ _ _ q)⟩
def gN (i : Nat) : dG := fun d ρ T k => k (ρ.set i (some (.val d))) T
theorem g_name (i : Nat) {x : Str} (hN : X.N.Nodup) (hi : X.N[i]? = some x := by rfl) (hx : Loc X.env.scope x := by first | exact Or.inl rfl | exact Or.inr rfl) (hf : X.fn x = true ∨ X.env.scope.names.lookup x = some .local := by first | exact .inl rfl | exact .inr rfl | assumption) : PGd X (.Name x pos) (gN i) := by
  refine pg_imp (pg_name hN hi hx hf) fun v σ H Q h => ?_
  obtain ⟨ρ, T, t, F0, H0, F, d, k, w, r, h, f⟩ := h
  exact f _ _ _ _ _ (w.put r) (Same.refl _) h
def gsNil : dGs := fun ds ρ T k => ds = [] ∧ k ρ T
def gsCons (g : dG) (gs : dGs) : dGs := fun ds ρ T k => match ds with | d :: r => g d ρ T fun ρ' T' => gs r ρ' T' k | [] => False
theorem gs_nil : PGs X [] (tDGs X.K gsNil) := by
  refine pgs_imp pgs_nil fun vs σ H Q h => ?_
  obtain ⟨ρ, T, t, F0, H0, F, ds, k, w, r, ⟨e, h⟩, f⟩ := h
  subst e
  cases r
  exact ⟨rfl, f _ _ _ _ _ w (Same.refl _) h⟩
theorem gs_cons {tg : Expr} {tgs : List Expr} {g : dG} {gs : dGs} (h1 : PGd X tg g) (h2 : PGs X tgs (tDGs X.K gs)) (hs : (assignEach (tg :: tgs) X.env).map (·.2) = assign tg X.env :: (assignEach tgs X.env).map (·.2) := by rfl) : PGs X (tg :: tgs) (tDGs X.K (gsCons g gs)) := by
  refine pgs_imp (pgs_cons h1 h2 hs) fun vs σ H Q h => ?_
  obtain ⟨ρ, T, t, F0, H0, F, ds, k, w, r, h, f⟩ := h
  cases r with
  | nil => exact h.elim
  | cons r1 rr => exact ⟨_, _, rfl, ρ, T, t, F0, H0, F, _, _, w, r1, h, fun ρ' T' σ' F' H' w' s' h' => ⟨ρ', T', t, F0, H0, F', _, k, w', rr.mono s', h', f.to s'⟩⟩
def gT (n : Nat) (gs : dGs) : dG := fun d ρ T k => match d with | .tup ds => ds.length = n ∧ gs ds ρ T k | _ => False
def sAsg (fe : dE) (g : dG) : dS := fun k ρ T => fe ρ T fun d T1 => g d ρ T1 k.nx
theorem asg_ok {K : PySem.W.Frag} {g : dG} {σ : L2.St} {H : Hp} {E : Ends} (h : tDS K (sAsg fe g) E σ H) : tD K fe σ H fun v H1 => tDG K g v σ H1 E.nx := by
  obtain ⟨ρ, T, t, F0, H0, F, k, w, h, fe⟩ := h
  refine ⟨ρ, T, t, F, _, w.w, h, fun v H1 F1 d T1 w1 g1 r1 h1 => ?_⟩
  exact ⟨ρ, T1, t, F0, H0, F1, d, _, w.grow g1 w1, r1, h1, fe.nx.to g1.sub⟩
theorem s_asg {tg : Expr} {g : dG} (he : PEd X e fe) (hg : PGd X tg g) (hs : swapsWithSole [tg] e pos.line X.env = pure false := by rfl) (hw : swappedStores [tg] e X.env = pure none := by rfl)
    (h1 : (assignEach [tg] X.env).map (·.2) = [assign tg X.env] := by rfl) : PSd X (.Assign [tg] e pos) (sAsg fe g) :=
  ps_imp (ps_asg he hg hs hw h1) fun _ _ _ h => asg_ok h
theorem s_set (i : Nat) {x : Str} {pos' : Pos} (hN : X.N.Nodup) (he : PEd X e fe) (hi : X.N[i]? = some x := by rfl) (hx : Loc X.env.scope x := by first | exact Or.inl rfl | exact Or.inr rfl) (hs : swapsWith e (some (.Name x pos')) pos.line X.env = pure false := by rfl)
    (hf : X.fn x = true ∨ X.env.scope.names.lookup x = some .local := by first | exact .inl rfl | exact .inr rfl | assumption) : PSd X (.Assign [.Name x pos'] e pos) (sAsg fe (gN i)) := by
  refine ps_imp (ps_set hN hi hx he hs hf) fun E σ H h => ?_
  obtain ⟨ρ, T, t, F0, H0, F, k, w, h, fe⟩ := h
  exact ⟨ρ, T, t, F, _, w.w, h, fun v H1 F1 d T1 w1 g1 r1 h1 => fe.nx _ _ _ _ _ ((w.grow g1 w1).put r1) g1.sub h1⟩
/-- a, b = x, y -/
def sPar (i j : Nat) (fr : dA) : dS := fun k ρ T => fr ρ T fun as T1 => match as with | [.val d, .val e] => k.nx ((ρ.set i (some (.val d))).set j (some (.val e))) T1 | _ => False
theorem s_par (i j : Nat) {x y : Str} {a b : Expr} {fr : dA} {px py pt : Pos} {kt k2 pt2} (hc : X.calm = true) (hN : X.N.Nodup) (ha : PAd X [a, b] fr)
    (hi : X.N[i]? = some x := by rfl) (hj : X.N[j]? = some y := by rfl) (hij : i ≠ j := by decide) (hx : X.env.scope.names.lookup x = some .local := by rfl) (hy : X.env.scope.names.lookup y = some .local := by rfl)
    (hw : swappedStores [.Tuple [.Name x px, .Name y py] kt pt] (.Tuple [a, b] k2 pt2) X.env = pure (some [x, y]) := by rfl)
    (hs : swapsWithSole [.Tuple [.Name x px, .Name y py] kt pt] (.Tuple [a, b] k2 pt2) pos.line X.env = pure false := by rfl) : PSd X (.Assign [.Tuple [.Name x px, .Name y py] kt pt] (.Tuple [a, b] k2 pt2) pos) (sPar i j fr) := by
  refine ps_imp (ps_par hc hN hi hj hij hx hy ha hw hs) fun E σ H h => ?_
  obtain ⟨ρ, T, t, F0, H0, F, k, w, h, fe⟩ := h
  refine ⟨ρ, T, t, F, _, w.w, h, fun vs H1 F1 as T1 w1 g1 r1 h1 => ?_⟩
  split at h1
  · cases r1 with
    | val r1 rr =>
      cases rr with
      | val r2 rr =>
        cases rr
        exact ⟨_, _, rfl, fe.nx _ _ _ _ _ (((w.grow g1 w1).put r1).put r2) g1.sub h1⟩
  · exact h1.elim

/-! loops -/
def sWhile (c : dT) (f : dS) : dS := fun k ρ T => ∃ W : Nat → En → Tk → Prop, (∃ m, W m ρ T) ∧ ∀ m ρ T, W m ρ T → c ρ T fun b T1 => if b = true then
  f { nx := fun ρ' T' => ∃ m', m' < m ∧ W m' ρ' T', rt := k.rt, bk := k.nx, ct := fun ρ' T' => ∃ m', m' < m ∧ W m' ρ' T' } ρ T1 else k.nx ρ T1
theorem s_while {c : Expr} {tc : dT} {body : List Stmt} (hp : PassesOwn (model X.prog X.w) X.A X.env X.xe) (hc : PTd X c tc) (hb : PSsd X body f) : PSd X (.While c body [] pos) (sWhile tc f) := by
  refine ps_imp (ps_while hp hc hb) fun E σ H h => ?_
  obtain ⟨ρ, T, t, F0, H0, F, k, w, ⟨W, ⟨m0, w0⟩, turn⟩, fe⟩ := h
  refine ⟨fun m σ H => ∃ ρ T F', Ws X.K ρ T t σ F0 H0 F' H ∧ Same F F' ∧ W m ρ T, ⟨m0, ρ, T, F, w, Same.refl _, w0⟩, fun m σ H h => ?_⟩
  obtain ⟨ρ, T, F', w, sF, hW⟩ := h
  refine ⟨ρ, T, t, F', _, w.w, turn m ρ T hW, fun b H1 F1 T1 w1 g1 h1 => ?_⟩
  have s1 : Same F F1 := sF.trans g1.sub
  cases b with
  | false => exact fe.nx _ _ _ _ _ (w.grow g1 w1) s1 h1
  | true =>
    rw [if_pos rfl] at h1
    refine iteT ⟨fun σ' H' => ∃ m', m' < m ∧ ∃ ρ T F', Ws X.K ρ T t σ' F0 H0 F' H' ∧ Same F F' ∧ W m' ρ T, fun σ' H' h => h, ρ, T1, t, F0, H0, F1, _, w.grow g1 w1, h1, ?_⟩
    exact ⟨fun ρ' T' σ' F' H' w' s' ⟨m', lt, hw'⟩ => ⟨m', lt, ρ', T', F', w', s1.trans s', hw'⟩, fe.rt, fe.nx.to s1, fun ρ' T' σ' F' H' w' s' ⟨m', lt, hw'⟩ => ⟨m', lt, ρ', T', F', w', s1.trans s', hw'⟩⟩
/-- over some items -/
def forL (g : dG) (f : dS) (k : dEnds) : List D → En → Tk → Prop
  | [], ρ, T => k.nx ρ T
  | d :: r, ρ, T => g d ρ T fun ρ1 T1 => f { nx := forL g f k r, rt := k.rt, bk := k.nx, ct := forL g f k r } ρ1 T1
def D.items : D → Option (List D) | .tup xs => some xs | .lst xs => some xs | _ => none
/-- range(lo, lo + n) -/
def intsL (lo : Int) : Nat → List D
  | 0 => [] | n + 1 => .int lo :: intsL (lo + 1) n
theorem intsL_len : ∀ (n : Nat) (lo : Int), (intsL lo n).length = n
  | 0, _ => rfl
  | n + 1, lo => by simp [intsL, intsL_len n]
theorem intsL_get : ∀ (n : Nat) (lo : Int) (i : Nat), i < n → (intsL lo n)[i]? = some (.int (lo + i))
  | 0, _, _, h => absurd h (Nat.not_lt_zero _)
  | n + 1, lo, 0, _ => by simp [intsL]
  | n + 1, lo, i + 1, h => by
    show (intsL (lo + 1) n)[i]? = _
    rw [intsL_get n (lo + 1) i (by omega)]
    congr 2
    omega
end
end L2.G

namespace L2.G
open PySem PySem.Spec PyProof.Rows

/-! a def's promise where no text is being written (for repr) -/
structure GFn (P : Program) (w : World) (K : PySem.W.Frag) (mg : Str → Option Value) (base : Heap) (CX : CXT) (n : Nat) (f : Addr) (fd : FuncData) (ps : List Str) (sp : Sp) : Prop where
  len : ∀ vs H Q E, sp vs H Q E → vs.length = ps.length
  go : ∀ (A : Around) (fs : List Env) (s : Shared) (H : Hp) (args : Args) (us : List Value) (vs : List V) (Q : VK) (E : XK),
    Room n A ∧ A.guards = some [] → Env0 P w K mg base A fs s H → BindsTo s fd args (ps.zip us) → Vals vs us → sp vs H Q E → codeAny (model P w) A (.call (.ref f) args) (CR CX fs P w H s Q E) s

section
variable {P : Program} {w : World} {K : PySem.W.Frag} {mg : Str → Option Value} {base : Heap} {CX : CXT}
theorem GFn.mono {m n : Nat} {f : Addr} {fd : FuncData} {ps : List Str} {sp : Sp} (G : GFn P w K mg base CX m f fd ps sp) (h : m ≤ n) : GFn P w K mg base CX n f fd ps sp :=
  ⟨G.len, fun A fs s H args us vs Q E r => G.go A fs s H args us vs Q E ⟨r.1.mono h, r.2⟩⟩
theorem GFn.imp {n : Nat} {f : Addr} {fd : FuncData} {ps : List Str} {sp sp' : Sp} (G : GFn P w K mg base CX n f fd ps sp) (h : ∀ vs H Q E, sp' vs H Q E → sp vs H Q E) : GFn P w K mg base CX n f fd ps sp' :=
  ⟨fun vs H Q E q => G.len vs H Q E (h _ _ _ _ q), fun A fs s H args us vs Q E r e b v q => G.go A fs s H args us vs Q E r e b v (h _ _ _ _ q)⟩
/-- by the body -/
theorem gfn_body {n : Nat} {f : Addr} {name qual : Str} {params : Arguments} {body : List Stmt} {scope : Scope} {dV kV doc pm cdv ct oc : Value} {an od : Option Addr} {osl : Array (Option Value)} {N ps : List Str} {sp : Sp}
    (lk : K.lookup f = some ⟨oc, od, .func (PySem.W.fnOf name qual params body scope dV kV doc pm an cdv ct), osl⟩) (hcd : PySem.W.codeIn K cdv qual = true) (S : FnScope N ps scope) (len : ∀ vs H Q E, sp vs H Q E → vs.length = ps.length)
    (hb : ∀ (A : Around) (fs : List Env) (s : Shared) (H : Hp) (vs : List V) (Q : VK) (E : XK), Room n (A.deeper (envOfC qual scope s.heap.objs.size f cdv)) → A.guards = some [] → sp vs H Q E →
      ∃ t, PSs (cxOf CX P w K mg base N qual scope f cdv A fs s H E) body t ∧ t { nx := fun _ H' => Q .non H', rt := Q } (start N vs) H) :
    GFn P w K mg base CX (n + 1) f (PySem.W.fnOf name qual params body scope dV kV doc pm an cdv ct) ps sp := by
  constructor
  · exact len
  intro A fs s H args us vs Q E room e0 bd r hsp
  obtain ⟨hr, hgd⟩ := room
  have hl := len _ _ _ _ hsp
  have up : ∀ b o, base.get? b = some o → s.heap.get? b = some o := fun b o e => (e0.bs b o e).1
  have KX : K.In s.heap := e0.mod.kin.keeps up
  have hk : ∀ y ∈ ps.zip us, scope.names.lookup y.1 = some .local ∨ (scope.names.lookup y.1 = some .cell ∧ ((cellsFrom (s.heap.objs.size + 1) scope.names []).lookup y.1).isSome = true) := by
    rintro ⟨m, v⟩ hy
    cases S.par m (List.of_mem_zip hy).1 with
    | inl q => exact .inl q
    | inr q => exact .inr ⟨q, PySem.W.cellsFrom_some _ _ _ (.inl q)⟩
  apply codeAny_call_function hr.depth (KX _ _ lk) rfl S.co S.gen rfl (PySem.W.codeRec_of KX hcd)
  apply bd
  apply wpAny_newFunctionEnv_cells S.kind hk
  intro env he s1 x
  subst he
  constructor
  · exact (e0.mod.nolimit.keeps up).keeps x.toInCall.keep
  apply codeAny_func
  obtain ⟨t, ht, hq⟩ := hb A fs s H vs Q E (hr.deeper _) hgd hsp
  have I := inv_start (CX := CX) (E := E) (f := f) (cd := cdv) (qual := qual) S hr.hd e0 hl r x
  have last : ∀ {σ' : L2.St} {H' : Hp} {v : V} {u : Value} {s' : Shared}, Inv (cxOf CX P w K mg base N qual scope f cdv A fs s H E) [] σ' H' s' → RelV v u → Q v H' → CE fs P w H s Q u s' :=
    fun {_ H' v u _} J rv q => ⟨v, H', J.os, J.bare, J.base, J.hok, rv, q⟩
  apply wpAny_mono (ht.run [] s1 (start N vs) H _ I hq)
  · intro fl s' hs
    cases fl with
    | next => obtain ⟨_, _, J, q⟩ := hs; exact last (v := V.non) (u := Value.none) J rfl q
    | brk => obtain ⟨_, _, _, q⟩ := hs; exact q.elim
    | cont => obtain ⟨_, _, _, q⟩ := hs; exact q.elim
    | ret u => obtain ⟨v, _, _, J, rv, q⟩ := hs; exact last J rv q
  · exact fun e s' hs => hs
end

section
variable {X : Cx} {CX : CXT} {n : Nat} {f : Addr} {fd : FuncData} {ps ks : List Str} {sp : Sp} {E : XK} {x : Str} {p pos : Pos} {e : Expr} {es : List Expr} {kws : List Keyword} {t tk : TA} {g : List Value → List Value → List Value} {gV : List V → List V → List V}
/-- the call, however the arguments are bound -/
theorem g_run (G : GFn X.prog X.w X.K X.mg X.base CX n f fd ps sp) (hr : Room n X.A) (hgd : X.A.guards = some []) (hx : Passes CX X E) {pins : List (Addr × Obj)} {σ : L2.St} {H : Hp} {s : Shared} {Q : VK} {args : Args} {us : List Value} {vs : List V}
    (I : Inv X pins σ H s) (r : Vals vs us) (b : BindsTo s fd args (ps.zip us)) (h : sp vs H Q E) : wpAny (model X.prog X.w) X.A (call (.ref f) args.pos args.kw) (EP X pins σ Q) X.xe s := by
  apply wpAny_call
  apply codeAny_mono (G.go X.A X.stack s H args us vs Q E ⟨hr, hgd⟩ I.env0 b r h)
  intro r s' hq
  match r, hq with
  | .error e, hq => exact hx pins σ H s e s' I hq
  | .ok (.ret u), hq => exact I.after hq
theorem g_call (G : GFn X.prog X.w X.K X.mg X.base CX n f fd ps sp) (hr : Room n X.A) (hgd : X.A.guards = some []) (hg : Gl X x) (hm : X.mg x = some (.ref f)) (hk : PySem.W.keepIn X.K (.ref f) = true) (hb : Binds X.K fd ps []) (hx : Passes CX X E)
    (ha : PA X (e :: es) t) (hd : (x == ("__debug__" : Str)) = false := by decide) (he : starEach (e :: es) X.env = (false, eval e X.env) :: starEach es X.env := by rfl) (hp : (backTo pos (starEach es X.env)).any (·.1) = false := by rfl) :
    PE X (.Call (.Name x p) (e :: es) [] pos) (tCall sp [] E t) := by
  constructor
  intro pins s σ H Q I h
  apply wpAny_Call_Name_kw
  apply ld_glob I hg hm _ hd
  apply PySem.W.callWith_K (h₀ := X.base) I.ok.mod.kin hk _ he hp
  apply thn (ha.run pos pins s σ H _ I h)
  rintro us s1 ⟨vs, H1, I1, r, q⟩
  refine ⟨I1.kIn, ?_⟩
  have q : sp (vs ++ []) H1 Q E := q
  rw [List.append_nil] at q
  have hl : us.length = ps.length := by rw [← r.length]; exact G.len _ _ _ _ q
  have b := hb s1 us I1.kIn (by rw [List.append_nil]; exact hl)
  rw [List.append_nil] at b
  exact g_run G hr hgd hx (args := ⟨us, []⟩) I1 r b q
/-- all arguments by name -/
theorem g_callK (G : GFn X.prog X.w X.K X.mg X.base CX n f fd ps sp) (hr : Room n X.A) (hgd : X.A.guards = some []) (hg : Gl X x) (hm : X.mg x = some (.ref f)) (hk : PySem.W.keepIn X.K (.ref f) = true) (hx : Passes CX X E)
    (hb : ∀ (s : Shared) (ws : List Value), X.K.In s.heap → ws.length = ps.length → BindsTo s fd ⟨[], ks.zip ws⟩ (ps.zip ws)) (hkw : PK X kws tk) (hd : (x == ("__debug__" : Str)) = false := by decide)
    (hall : (backToKw pos (keywordEach kws X.env)).all (·.1.isSome) = true := by rfl) (hks : (backToKw pos (keywordEach kws X.env)).filterMap (·.1) = ks := by rfl)
    (hp : ((backTo pos (starEach [] X.env)).any (·.1) || (backToKw pos (keywordEach kws X.env)).any (·.1.isNone)) = false := by rfl) : PE X (.Call (.Name x p) [] kws pos) (tCall sp [] E tk) := by
  constructor
  intro pins s σ H Q I h
  apply wpAny_Call_Name_kw
  apply ld_glob I hg hm _ hd
  apply PySem.W.callWith_KW0 (h₀ := X.base) I.ok.mod.kin hk hall _ hp
  apply thn (hkw.run pos pins s σ H _ I h)
  rintro ws s1 ⟨zs, H1, I1, r, q⟩
  refine ⟨I1.kIn, ?_⟩
  rw [hks]
  have q : sp (zs ++ []) H1 Q E := q
  rw [List.append_nil] at q
  have hl : ws.length = ps.length := by rw [← r.length]; exact G.len _ _ _ _ q
  exact g_run G hr hgd hx (args := ⟨[], ks.zip ws⟩) I1 r (hb s1 ws I1.kIn hl) q
end

/-! defs over data -/
abbrev Sem := List SV → Tk → KD → Prop
def spD (K : PySem.W.Frag) (n : Nat) (sem : Sem) : Sp := fun vs H Q _ => vs.length = n ∧ ∃ F t T as k, ArgL K t F as vs ∧ Wt K T t F H ∧ sem as T k ∧ Fin K t F H k Q
/-- the def x stands in the module and does sem -/
def Ok (P : Program) (w : World) (K : PySem.W.Frag) (mg : Str → Option Value) (base : Heap) (n : Nat) (x : Str) (ps : List Str) (sem : Sem) : Prop :=
  ∃ f fd, mg x = some (.ref f) ∧ PySem.W.keepIn K (.ref f) = true ∧ Binds K fd ps [] ∧ (∀ (s : Shared) (ws : List Value), K.In s.heap → ws.length = ps.length → BindsTo s fd ⟨[], ps.zip ws⟩ (ps.zip ws)) ∧ GFn P w K mg base CX0 n f fd ps (spD K ps.length sem) ∧ ∃ oc od osl, K.lookup f = some ⟨oc, od, .func fd, osl⟩
def Df (K : PySem.W.Frag) (mg : Str → Option Value) (x : Str) (st : Stmt) : Prop := ∃ f fd, Fun K x x st f fd ∧ mg x = some (.ref f)
theorem Ok.mono {P : Program} {w : World} {K : PySem.W.Frag} {mg : Str → Option Value} {base : Heap} {m n : Nat} {x : Str} {ps : List Str} {sem : Sem} (h : Ok P w K mg base m x ps sem) (l : m ≤ n) : Ok P w K mg base n x ps sem :=
  let ⟨f, fd, h1, h2, h3, h4, h5, h6⟩ := h; ⟨f, fd, h1, h2, h3, h4, h5.mono l, h6⟩
/-- a weaker reading -/
theorem Ok.imp {P : Program} {w : World} {K : PySem.W.Frag} {mg : Str → Option Value} {base : Heap} {n : Nat} {x : Str} {ps : List Str} {sem sem' : Sem} (h : Ok P w K mg base n x ps sem) (i : ∀ as T k, sem' as T k → sem as T k) : Ok P w K mg base n x ps sem' :=
  let ⟨f, fd, h1, h2, h3, h4, h5, h6⟩ := h; ⟨f, fd, h1, h2, h3, h4, h5.imp (fun vs H Q E ⟨q1, F, t, T, as, k, a, b, c, d⟩ => ⟨q1, F, t, T, as, k, a, b, i _ _ _ c, d⟩), h6⟩
abbrev CxD (P : Program) (w : World) (K : PySem.W.Frag) (mg : Str → Option Value) (base : Heap) (N : List Str) (x : Str) (st : Stmt) (f : Addr) (cdv : Value) (A : Around) (fs : List Env) (s : Shared) (H : Hp) (E : XK) : Cx :=
  (cxOf CX0 P w K mg base N x (defScope st) f cdv A fs s H E).nox
/-- what a body does, from the arguments -/
def start' (N : List Str) (as : List SV) : En := as.map some ++ List.replicate (N.length - as.length) none
def semOf (N : List Str) (b : dS) : Sem := fun as T k => b { nx := fun _ T => k .non T, rt := k, bk := fun _ _ => False, ct := fun _ _ => False } (start' N as) T
theorem argGet {K : PySem.W.Frag} {t : Option Addr} {F H : Hp} : ∀ {as : List SV} {vs : List V} (r : ArgL K t F as vs) (i : Nat) s, as[i]? = some s → (∃ v, vs[i]? = some v ∧ SlotR K t F H s v) ∧ ∀ xs, s ≠ .own xs
  | _, _, .nil, _, _, e => by simp at e
  | _, _, .val r q, 0, s, e => by simp at e; subst e; exact ⟨⟨_, rfl, r⟩, fun _ z => nomatch z⟩
  | _, _, .tank r q, 0, s, e => by simp at e; subst e; exact ⟨⟨_, rfl, _, r, rfl⟩, fun _ z => nomatch z⟩
  | _, _, .val r q, i + 1, s, e => argGet q i s (by simpa using e)
  | _, _, .tank r q, i + 1, s, e => argGet q i s (by simpa using e)
theorem startGet {N : List Str} {as : List SV} {i : Nat} {s : SV} (h : (start' N as)[i]? = some (some s)) : as[i]? = some s := by
  unfold start' at h
  by_cases hi : i < as.length
  · rw [List.getElem?_append_left (by simpa using hi), List.getElem?_map] at h
    cases e : as[i]? with
    | none => rw [e] at h; cases h
    | some a => rw [e] at h; cases h; rfl
  · rw [List.getElem?_append_right (by simpa using hi), List.getElem?_replicate] at h
    split at h <;> cases h
theorem wd_start {K : PySem.W.Frag} {N : List Str} {t : Option Addr} {F H : Hp} {T : Tk} {as : List SV} {vs : List V} (r : ArgL K t F as vs) (w : Wt K T t F H) : Wd K (start' N as) T t (start N vs) F H := by
  refine ⟨w, by simp [start', start, r.len], fun i s e => ?_, fun i j xs ys l e1 _ _ _ => ?_⟩
  · have e' := startGet e
    obtain ⟨⟨v, h1, h2⟩, _⟩ := argGet (H := H) r i s e'
    refine ⟨v, ?_, h2⟩
    have hi := (List.getElem?_eq_some_iff.mp h1).1
    unfold start
    rw [List.getElem?_append_left (by simpa using hi), List.getElem?_map, h1]
    rfl
  · exact absurd rfl ((argGet (H := H) r i _ (startGet e1)).2 xs)
theorem ok_def {P : Program} {w : World} {K : PySem.W.Frag} {mg : Str → Option Value} {base : Heap} {n : Nat} {x : Str} {st : Stmt} {N ps : List Str} {b : dS} (h : Df K mg x st) (S : FnScope N ps (defScope st))
    (hb1 : ∀ (kV doc pm : Value) (an : Option Addr) (cdv ct : Value) (us : List Value), us.length = ps.length → bindArgs (PySem.W.fnOf x x (defArgs st) (defBody st) (defScope st) .none kV doc pm an cdv ct) ⟨us, []⟩ = pure (ps.zip us))
    (hb2 : ∀ (kV doc pm : Value) (an : Option Addr) (cdv ct : Value) (us : List Value), us.length = ps.length → bindArgs (PySem.W.fnOf x x (defArgs st) (defBody st) (defScope st) .none kV doc pm an cdv ct) ⟨[], ps.zip us⟩ = pure (ps.zip us))
    (body : ∀ (f : Addr) (cdv : Value) (A : Around) (fs : List Env) (s : Shared) (H : Hp) (E : XK), Room n (A.deeper (envOfC x (defScope st) s.heap.objs.size f cdv)) → A.guards = some [] → PSsd (CxD P w K mg base N x st f cdv A fs s H E) (defBody st) b) :
    Ok P w K mg base (n + 1) x ps (semOf N b) := by
  obtain ⟨f, fd, Fn, hm⟩ := h
  refine ⟨f, fd, hm, Fn.kp, Fn.binds hb1, ?_, ?_, by obtain ⟨oc, od, kV, doc, pm, an, cdv, ct, osl, _, lk, _⟩ := Fn.ex; exact ⟨oc, od, osl, lk⟩⟩
  · obtain ⟨oc, od, kV, doc, pm, an, cdv, ct, osl, rfl, lk, hcd⟩ := Fn.ex
    exact fun s ws _ hl => .of_eq (hb2 kV doc pm an cdv ct ws hl)
  · obtain ⟨oc, od, kV, doc, pm, an, cdv, ct, osl, rfl, lk, hcd⟩ := Fn.ex
    refine gfn_body lk hcd S (fun vs H Q E q => q.1) fun A fs s H vs Q E hr hgd hsp => ?_
    obtain ⟨hl, F, t, T, as, k, ar, wt, h, fin⟩ := hsp
    refine ⟨_, (body f cdv A fs s H E hr hgd).nox, start' N as, T, t, F, H, F, _, ⟨wd_start ar wt, Grow.refl _ _ _, fun i xs l e1 _ => ?_⟩, h, ?_⟩
    · exact absurd rfl ((argGet (H := H) ar i _ (startGet e1)).2 xs)
    · exact ⟨fun ρ T' σ' F' H' w' _ q => fin .non H' F' .non T' w'.w.wt w'.g .non q, fun v H' F' d T' w' g' r' q => fin v H' F' d T' w' g' r' q, fun _ _ _ _ _ _ _ q => q.elim, fun _ _ _ _ _ _ _ q => q.elim⟩

section
variable {X : Cx} {n : Nat} {x : Str} {ps : List Str} {sem : Sem} {p pos : Pos} {e : Expr} {es : List Expr} {kws : List Keyword} {fr : dA}
def dCall (n : Nat) (sem : Sem) (fr : dA) : dE := fun ρ T k => fr ρ T fun as T1 => as.length = n ∧ sem as T1 k
theorem call_ok {K : PySem.W.Frag} {E : XK} {σ : L2.St} {H : Hp} {Q : VK} (h : tD K (dCall n sem fr) σ H Q) : tCall (spD K n sem) [] E (tDA K fr) σ H Q := by
  obtain ⟨ρ, T, t, F, k, w, h, f⟩ := h
  refine ⟨ρ, T, t, F, _, w, h, fun vs H1 F1 as T1 w1 g1 r1 h1 => ?_⟩
  show spD K n sem (vs ++ []) H1 Q E
  rw [List.append_nil]
  exact ⟨by rw [← r1.len]; exact h1.1, F1, t, T1, as, k, r1, w1, h1.2, f.then g1⟩
theorem d_call (G : Ok X.prog X.w X.K X.mg X.base n x ps sem) (hr : Room n X.A) (hgd : X.A.guards = some []) (ha : PAd X (e :: es) fr) (hg : Gl X x := by rfl)
    (hd : (x == ("__debug__" : Str)) = false := by decide) (he : starEach (e :: es) X.env = (false, eval e X.env) :: starEach es X.env := by rfl) (hp : (backTo pos (starEach es X.env)).any (·.1) = false := by rfl) : PEd X (.Call (.Name x p) (e :: es) [] pos) (dCall ps.length sem fr) := by
  obtain ⟨f, fd, h1, h2, h3, _, h5, _⟩ := G
  exact pe_imp (g_call (E := E0) h5 hr hgd hg h1 h2 h3 pass0 ha hd he hp) fun _ _ _ h => call_ok h
theorem pk_imp {t u : TA} (h : PK X kws t) (i : ∀ σ H Q, u σ H Q → t σ H Q) : PK X kws u := ⟨fun pos pins s σ H Q I q => h.run pos pins s σ H Q I (i _ _ _ q)⟩
abbrev PKd (X : Cx) (kws : List Keyword) (f : dA) : Prop := PK X kws (tDA X.K f)
theorem k_nil : PKd X [] aNil := by
  refine pk_imp pk_nil fun σ H Q h => ?_
  obtain ⟨ρ, T, t, F, k, w, h, f⟩ := h
  exact f _ _ _ _ _ w.wt (Grow.refl _ _ _) .nil h
theorem k_cons {nm : Option Str} {kp : Pos} {fe : dE} (he : PEd X e fe) (hr : PKd X kws fr) : PKd X (⟨nm, e, kp⟩ :: kws) (aCons fe fr) := by
  refine pk_imp (pk_cons he hr) fun σ H Q h => ?_
  obtain ⟨ρ, T, t, F, k, w, h, f⟩ := h
  refine ⟨ρ, T, t, F, _, w, h, fun v H1 F1 x T1 w1 g1 r1 h1 => ?_⟩
  refine ⟨ρ, T1, t, F1, _, w.grow g1 w1, h1, fun vs H2 F2 as T2 w2 g2 r2 h2 => ?_⟩
  exact f _ _ _ _ _ w2 (g1.trans g2) (.val (r1.mono g2.sub) r2) h2
theorem d_callK (G : Ok X.prog X.w X.K X.mg X.base n x ps sem) (hr : Room n X.A) (hgd : X.A.guards = some []) (hkw : PKd X kws fr) (hg : Gl X x := by rfl) (hd : (x == ("__debug__" : Str)) = false := by decide)
    (hall : (backToKw pos (keywordEach kws X.env)).all (·.1.isSome) = true := by rfl) (hks : (backToKw pos (keywordEach kws X.env)).filterMap (·.1) = ps := by rfl)
    (hp : ((backTo pos (starEach [] X.env)).any (·.1) || (backToKw pos (keywordEach kws X.env)).any (·.1.isNone)) = false := by rfl) : PEd X (.Call (.Name x p) [] kws pos) (dCall ps.length sem fr) := by
  obtain ⟨f, fd, h1, h2, _, h4, h5, _⟩ := G
  exact pe_imp (g_callK (E := E0) h5 hr hgd hg h1 h2 pass0 h4 hkw hd hall hks hp) fun _ _ _ h => call_ok h
end
end L2.G

namespace L2.G
open PySem PySem.Spec PyProof.Rows

/-! built-in functions -/
section
variable {X : Cx} {x : Str} {p pos : Pos} {e : Expr} {es : List Expr} {fr : dA} {id T : String} {r : List V → Hp → VK → Prop}
def dBlt (o : List D → (D → Prop) → Prop) (fr : dA) : dE := fun ρ T k => fr ρ T fun as T1 => match vals? as with | some ds => o ds fun d => k d T1 | none => False
def BltS (K : PySem.W.Frag) (r : List V → Hp → VK → Prop) (o : List D → (D → Prop) → Prop) : Prop := ∀ {t : Option Addr} {F H : Hp} {T : Tk} {ds : List D} {vs : List V} {k : KD} {Q : VK}, Wt K T t F H → RepL K F ds vs → o ds (fun d => k d T) → Fin K t F H k Q → r vs H Q
theorem blt_ok {K : PySem.W.Frag} {o : List D → (D → Prop) → Prop} (s : BltS K r o) {σ : L2.St} {H : Hp} {Q : VK} (h : tD K (dBlt o fr) σ H Q) : tCB r (tDA K fr) σ H Q := by
  obtain ⟨ρ, T, t, F, k, w, h, f⟩ := h
  refine ⟨ρ, T, t, F, _, w, h, fun vs H1 F1 as T1 w1 g1 r1 h1 => ?_⟩
  split at h1
  · rename_i ds e
    exact s w1 (r1.vals e) h1 (f.then g1)
  · exact h1.elim
theorem d_blt {o : List D → (D → Prop) → Prop} (hc : CallR X (.builtin id) r) (s : BltS X.K r o) (hm : X.mg x = none) (ha : PAd X (e :: es) fr) (hv : bootBuiltins x = some (.builtin id) := by decide +kernel) (hg : Gl X x := by rfl) (hn : x ≠ "__name__" := by decide) (hd : (x == ("__debug__" : Str)) = false := by decide)
    (he : starEach (e :: es) X.env = (false, eval e X.env) :: starEach es X.env := by rfl) (hp : (backTo pos (starEach es X.env)).any (·.1) = false := by rfl) : PEd X (.Call (.Name x p) (e :: es) [] pos) (dBlt o fr) :=
  pe_imp (pe_callB hc hg hm hv ha hn hd he hp) fun _ _ _ h => blt_ok s h
theorem d_blty {o : List D → (D → Prop) → Prop} (hc : CallR X (.type T) r) (s : BltS X.K r o) (hm : X.mg x = none) (ha : PAd X (e :: es) fr) (hv : bootBuiltins x = some (.type T) := by decide +kernel) (hg : Gl X x := by rfl) (hn : x ≠ "__name__" := by decide) (hd : (x == ("__debug__" : Str)) = false := by decide)
    (he : starEach (e :: es) X.env = (false, eval e X.env) :: starEach es X.env := by rfl) (hp : (backTo pos (starEach es X.env)).any (·.1) = false := by rfl) : PEd X (.Call (.Name x p) (e :: es) [] pos) (dBlt o fr) :=
  pe_imp (pe_callTy hc hg hm hv ha hn hd he hp) fun _ _ _ h => blt_ok s h
/-- a name of the module for a built-in function (gcd of math) -/
theorem d_bfun {o : List D → (D → Prop) → Prop} (hc : CallR X (.builtin id) r) (s : BltS X.K r o) (hm : X.mg x = some (.builtin id)) (ha : PAd X (e :: es) fr) (hg : Gl X x := by rfl) (hd : (x == ("__debug__" : Str)) = false := by decide)
    (he : starEach (e :: es) X.env = (false, eval e X.env) :: starEach es X.env := by rfl) (hp : (backTo pos (starEach es X.env)).any (·.1) = false := by rfl) : PEd X (.Call (.Name x p) (e :: es) [] pos) (dBlt o fr) :=
  pe_imp (pe_callBfun hc hg hm ha hd he hp) fun _ _ _ h => blt_ok s h

/-! len -/
def oLen (ds : List D) (k : D → Prop) : Prop := match ds with | [.tup xs] => k (.int xs.length) | [.lst xs] => k (.int xs.length) | [.scr xs] => k (.int xs.length) | _ => False
theorem oLen_ok {K : PySem.W.Frag} : BltS K (fun xs H Q => ∃ p ys, xs = [.ref p] ∧ (SqL K H p ys ∨ SqT K H p ys) ∧ Q (.int ys.length) H) oLen := by
  intro t F H T ds vs k Q wt r q f
  unfold oLen at q
  split at q
  · cases r with
    | cons r rr =>
      cases rr
      obtain ⟨a, ws, rfl, h, r⟩ := rep_tup r
      rw [r.len] at q
      exact ⟨a, ws, rfl, .inr (same_t wt.sub h), f.val wt (.int _) q⟩
  · cases r with
    | cons r rr =>
      cases rr
      obtain ⟨a, ws, rfl, h, r⟩ := rep_lst r
      rw [r.len] at q
      exact ⟨a, ws, rfl, .inl (.of (wt.sub _ _ h)), f.val wt (.int _) q⟩
  · cases r with
    | cons r rr =>
      cases rr
      obtain ⟨a, ws, rfl, h, r⟩ := rep_scr r
      rw [r.len] at q
      exact ⟨a, ws, rfl, .inl (wt.sub.seq h), f.val wt (.int _) q⟩
  · exact q.elim
/-! functions of ints -/
def o1 (g : Int → Int) (ds : List D) (k : D → Prop) : Prop := match ds with | [.int i] => k (.int (g i)) | _ => False
def o2 (g : Int → Int → Int) (ds : List D) (k : D → Prop) : Prop := match ds with | [.int i, .int j] => k (.int (g i j)) | _ => False
theorem o1_ok {K : PySem.W.Frag} {g : Int → Int} : BltS K (fun xs H Q => ∃ i, xs = [.int i] ∧ Q (.int (g i)) H) (o1 g) := by
  intro t F H T ds vs k Q wt r q f
  unfold o1 at q
  split at q
  · cases r with
    | cons r rr => cases rr; cases r; exact ⟨_, rfl, f.val wt (.int _) q⟩
  · exact q.elim
theorem o2_ok {K : PySem.W.Frag} {g : Int → Int → Int} : BltS K (fun xs H Q => ∃ i j, xs = [.int i, .int j] ∧ Q (.int (g i j)) H) (o2 g) := by
  intro t F H T ds vs k Q wt r q f
  unfold o2 at q
  split at q
  · cases r with
    | cons r rr => cases rr with | cons r2 rr => cases rr; cases r; cases r2; exact ⟨_, _, rfl, f.val wt (.int _) q⟩
  · exact q.elim
/-- int(e) of an int, of a truth value -/
def oIntB (ds : List D) (k : D → Prop) : Prop := match ds with | [.int i] => k (.int i) | [.bl b] => k (.int (if b then 1 else 0)) | _ => False
theorem oIntB_ok {K : PySem.W.Frag} : BltS K (fun xs H Q => (∃ i, xs = [.int i] ∧ Q (.int i) H) ∨ ∃ k, xs = [.bl k] ∧ Q (.int (if k then 1 else 0)) H) oIntB := by
  intro t F H T ds vs k Q wt r q f
  unfold oIntB at q
  split at q
  · cases r with
    | cons r rr => cases rr; cases r; exact .inl ⟨_, rfl, f.val wt (.int _) q⟩
  · cases r with
    | cons r rr => cases rr; cases r; exact .inr ⟨_, rfl, f.val wt (.int _) q⟩
  · exact q.elim
/-! isqrt -/
theorem cr_isqrt : CallR X (.builtin "math.isqrt") (fun xs H Q => ∃ i : Int, xs = [.int i] ∧ (0 ≤ i ∧ i.natAbs < 2 ^ 13000) ∧ Q (.int ((Float64.isqrt i.toNat : Nat) : Int)) H) := by
  intro pins s σ H vs us Q I r h
  obtain ⟨i, rfl, ⟨h0, h1⟩, q⟩ := h
  obtain ⟨u, rfl, t, rfl⟩ := vals1 r
  have hl : i.toNat.log2 < 13000 := by
    have : i.toNat = i.natAbs := by omega
    rw [this]
    exact PySem.Flt.log2_lt_of (by decide) h1
  have h2 := PySem.W.mg_run_isqrt i t (by omega) (by omega) (by omega)
  exact call_function_meets PySem.W.MGF.kind_isqrt PySem.W.MGF.plain_isqrt PySem.W.MGF.entry_isqrt (PySem.W.MGF.args_isqrt _) h2.meets ⟨.int _, H, I.tok _, ⟨_, rfl⟩, q⟩
def oSqrt (ds : List D) (k : D → Prop) : Prop := match ds with | [.int i] => (0 ≤ i ∧ i.natAbs < 2 ^ 13000) ∧ k (.int ((Float64.isqrt i.toNat : Nat) : Int)) | _ => False
theorem oSqrt_ok {K : PySem.W.Frag} : BltS K (fun xs H Q => ∃ i : Int, xs = [.int i] ∧ (0 ≤ i ∧ i.natAbs < 2 ^ 13000) ∧ Q (.int ((Float64.isqrt i.toNat : Nat) : Int)) H) oSqrt := by
  intro t F H T ds vs k Q wt r q f
  unfold oSqrt at q
  split at q
  · cases r with
    | cons r rr => cases rr; cases r; exact ⟨_, rfl, q.1, f.val wt (.int _) q.2⟩
  · exact q.elim
/-! divmod -/
def DmOk (i j : Int) : Prop := 0 < j ∧ j.natAbs < 2 ^ 9000
def oDivmod (ds : List D) (k : D → Prop) : Prop := match ds with | [.int i, .int j] => DmOk i j ∧ k (.tup [.int (i / j), .int (i % j)]) | _ => False
theorem call_divmodQ : CallR X (.builtin "divmod") (fun xs H Q => ∃ i j, xs = [.int i, .int j] ∧ DmOk i j ∧ ∀ p, H p = none → Q (.ref p) (upd H p (.tup [.int (i / j), .int (i % j)]))) :=
  fun pins s σ H xs us Q I r ⟨i, j, e, c, q⟩ => call_divmodW pins s σ H xs us Q I r ⟨i, j, e, ⟨c.1, PyProof.noPylong_of_log2 (PySem.Flt.log2_lt_of (by decide) c.2)⟩, q⟩
theorem oDivmod_ok {K : PySem.W.Frag} : BltS K (fun xs H Q => ∃ i j, xs = [.int i, .int j] ∧ DmOk i j ∧ ∀ p, H p = none → Q (.ref p) (upd H p (.tup [.int (i / j), .int (i % j)]))) oDivmod := by
  intro t F H T ds vs k Q wt r q f
  unfold oDivmod at q
  split at q
  · cases r with
    | cons r rr => cases rr with | cons r2 rr => cases rr; cases r; cases r2; exact ⟨_, _, rfl, q.1, fun p hp => f.tup wt (.cons (.int _) (.cons (.int _) .nil)) hp q.2⟩
  · exact q.elim
/-! all, any, sum of a list -/
def bls? : List D → Option (List Bool)
  | [] => some [] | .bl b :: r => (bls? r).map (b :: ·) | _ :: _ => none
def nums? : List D → Option (List Int)
  | [] => some [] | .int b :: r => (nums? r).map (b :: ·) | _ :: _ => none
theorem bls_some : ∀ {ds : List D} {bs : List Bool}, bls? ds = some bs → ds = bs.map D.bl
  | [], bs, e => by cases e; rfl
  | d :: ds, bs, e => by
    have ih := fun cs => bls_some (ds := ds) (bs := cs)
    cases d with
    | bl b =>
      simp only [bls?, Option.map_eq_some_iff] at e
      obtain ⟨cs, h1, rfl⟩ := e
      rw [ih cs h1]
      rfl
    | _ => exact absurd e (by simp [bls?])
theorem bls_inv {K : PySem.W.Frag} {F : Hp} : ∀ {bs : List Bool} {vs : List V}, RepL K F (bs.map D.bl) vs → vs = bs.map V.bl
  | [], _, r => by cases r; rfl
  | b :: bs, _, r => by
    cases r with
    | cons r q => rw [rep_bl r, bls_inv q]; rfl
theorem bls_rep {K : PySem.W.Frag} {F : Hp} {ds : List D} {vs : List V} {bs : List Bool} (r : RepL K F ds vs) (e : bls? ds = some bs) : vs = bs.map V.bl := by
  rw [bls_some e] at r
  exact bls_inv r
theorem nums_some : ∀ {ds : List D} {bs : List Int}, nums? ds = some bs → ds = bs.map D.int
  | [], bs, e => by cases e; rfl
  | d :: ds, bs, e => by
    have ih := fun cs => nums_some (ds := ds) (bs := cs)
    cases d with
    | int b =>
      simp only [nums?, Option.map_eq_some_iff] at e
      obtain ⟨cs, h1, rfl⟩ := e
      rw [ih cs h1]
      rfl
    | _ => exact absurd e (by simp [nums?])
theorem nums_inv {K : PySem.W.Frag} {F : Hp} : ∀ {bs : List Int} {vs : List V}, RepL K F (bs.map D.int) vs → vs = bs.map V.int
  | [], _, r => by cases r; rfl
  | b :: bs, _, r => by
    cases r with
    | cons r q => rw [rep_int r, nums_inv q]; rfl
def oAll (ds : List D) (k : D → Prop) : Prop := match ds with | [.lst xs] => (match bls? xs with | some bs => k (.bl (bs.all _root_.id)) | none => False) | _ => False
theorem oAll_ok {K : PySem.W.Frag} : BltS K (rAll K) oAll := by
  intro t F H T ds vs k Q wt r q f
  unfold oAll at q
  split at q
  · split at q
    · rename_i e
      cases r with
      | cons r rr =>
        cases rr
        obtain ⟨a, ws, rfl, h, r⟩ := rep_lst r
        have e2 := bls_rep r e
        subst e2
        exact ⟨a, _, rfl, .of (wt.sub _ _ h), f.val wt (.bl _) q⟩
    · exact q.elim
  · exact q.elim
/-! tuple(xs), list(xs) -/
def oTuple (ds : List D) (k : D → Prop) : Prop := match ds with | [.lst xs] => k (.tup xs) | [.tup xs] => k (.tup xs) | _ => False
def oList (ds : List D) (k : D → Prop) : Prop := match ds with | [.lst xs] => k (.lst xs) | [.tup xs] => k (.lst xs) | [.scr xs] => k (.lst xs) | _ => False
theorem oTuple_ok {K : PySem.W.Frag} : BltS K (fun xs H Q => ∃ p ys, xs = [.ref p] ∧ ((SqL K H p ys ∧ ∀ l, H l = none → Q (.ref l) (upd H l (.tup ys))) ∨ (SqT K H p ys ∧ Q (.ref p) H))) oTuple := by
  intro t F H T ds vs k Q wt r q f
  unfold oTuple at q
  split at q
  · cases r with
    | cons r rr =>
      cases rr
      obtain ⟨a, ws, rfl, h, r⟩ := rep_lst r
      exact ⟨a, ws, rfl, .inl ⟨.of (wt.sub _ _ h), fun l hl => f.tup wt r hl q⟩⟩
  · cases r with
    | cons r rr =>
      cases rr
      have r0 := r
      obtain ⟨a, ws, rfl, h, r⟩ := rep_tup r
      exact ⟨a, ws, rfl, .inr ⟨same_t wt.sub h, f.val wt r0 q⟩⟩
  · exact q.elim
theorem oList_ok {K : PySem.W.Frag} : BltS K (fun xs H Q => ∃ p ys, xs = [.ref p] ∧ (SqL K H p ys ∨ SqT K H p ys) ∧ ∀ l, H l = none → Q (.ref l) (upd H l (.lst ys))) oList := by
  intro t F H T ds vs k Q wt r q f
  unfold oList at q
  split at q
  · cases r with
    | cons r rr =>
      cases rr
      obtain ⟨a, ws, rfl, h, r⟩ := rep_lst r
      exact ⟨a, ws, rfl, .inl (.of (wt.sub _ _ h)), fun l hl => f.lst wt r hl q⟩
  · cases r with
    | cons r rr =>
      cases rr
      obtain ⟨a, ws, rfl, h, r⟩ := rep_tup r
      exact ⟨a, ws, rfl, .inr (same_t wt.sub h), fun l hl => f.lst wt r hl q⟩
  · cases r with
    | cons r rr =>
      cases rr
      obtain ⟨a, ws, rfl, h, r⟩ := rep_scr r
      exact ⟨a, ws, rfl, .inl (wt.sub.seq h), fun l hl => f.lst wt r hl q⟩
  · exact q.elim
/-! repr -/
def D.shOk (d : D) : Prop := d.eqOk ∧ d.py.showable = true ∧ d.py.shown.length ≤ sizeLine
def oRepr (ds : List D) (k : D → Prop) : Prop := match ds with | [.tup xs] => D.shOk (.tup xs) ∧ k (.str (D.py (.tup xs)).shown) | [.lst xs] => D.shOk (.lst xs) ∧ k (.str (D.py (.lst xs)).shown) | [.int i] => i.natAbs.log2 < 1920 ∧ k (.str (toString i)) | [.bl b] => k (.str (if b then "True" else "False")) | [.non] => k (.str "None") | _ => False
theorem call_reprD (hgd : X.A.guards = some []) (hu : X.A.units + 66 < cLine) : CallR X (.builtin "repr") (fun xs H Q => (∃ a d, xs = [.ref a] ∧ Dp X.K H (.ref a) d ∧ SeqAt.shaped d = true ∧ d.showable = true ∧ d.shown.length ≤ sizeLine ∧ Q (.str d.shown) H) ∨ ((∃ i, xs = [.int i] ∧ i.natAbs.log2 < 1920 ∧ Q (.str (toString i)) H) ∨ (∃ b : Bool, xs = [.bl b] ∧ Q (.str (if b then "True" else "False")) H) ∨ (xs = [.non] ∧ Q (.str "None") H))) := by
  intro pins s σ H xs us Q I r h
  rcases h with h | h
  · obtain ⟨a, d, rfl, hd, hs, hw, hl, q⟩ := h
    obtain ⟨u, rfl, ru⟩ := vals1 r
    obtain ⟨as, rd⟩ := Dp.reads I d _ u hd ru
    have e : u = Value.ref a := ru
    subst e
    have dl := SeqAt.depth_of_shaped hs
    refine repr_of_reads' rd hw (PyData.noDict_hsm (PyData.hasDict_of_canLay d (SeqAt.canLay_of_shaped hs))) hgd (by omega) (fun _ _ e => e) (fun h' u tk hk => ?_) hl
    exact ⟨.str _, H, I.kept (h' := h') (t' := tk) hk, ⟨_, rfl⟩, q⟩
  · rcases h with h | ⟨b, rfl, q⟩ | ⟨rfl, q⟩
    · exact SkE.call_repr_int pins s σ H xs us Q I r h
    · obtain ⟨u, rfl, ru⟩ := vals1 r
      cases ru
      exact PySem.P.repr_of_bool ⟨.str _, H, I.tok _, ⟨_, rfl⟩, q⟩
    · obtain ⟨u, rfl, ru⟩ := vals1 r
      cases ru
      exact PySem.P.repr_of_none ⟨.str _, H, I.tok _, ⟨_, rfl⟩, q⟩
theorem oRepr_ok {K : PySem.W.Frag} : BltS K (fun xs H Q => (∃ a d, xs = [.ref a] ∧ Dp K H (.ref a) d ∧ SeqAt.shaped d = true ∧ d.showable = true ∧ d.shown.length ≤ sizeLine ∧ Q (.str d.shown) H) ∨ ((∃ i, xs = [.int i] ∧ i.natAbs.log2 < 1920 ∧ Q (.str (toString i)) H) ∨ (∃ b : Bool, xs = [.bl b] ∧ Q (.str (if b then "True" else "False")) H) ∨ (xs = [.non] ∧ Q (.str "None") H))) oRepr := by
  intro t F H T ds vs k Q wt r q f
  unfold oRepr at q
  split at q
  · cases r with
    | cons r rr =>
      cases rr
      have r0 := r
      obtain ⟨a, ws, rfl, h, r⟩ := rep_tup r
      exact .inl ⟨a, _, rfl, r0.dp wt.sub q.1.1.1, q.1.1.2, q.1.2.1, q.1.2.2, f.val wt (.str _) q.2⟩
  · cases r with
    | cons r rr =>
      cases rr
      have r0 := r
      obtain ⟨a, ws, rfl, h, r⟩ := rep_lst r
      exact .inl ⟨a, _, rfl, r0.dp wt.sub q.1.1.1, q.1.1.2, q.1.2.1, q.1.2.2, f.val wt (.str _) q.2⟩
  · cases r with
    | cons r rr => cases rr; cases r; exact .inr (.inl ⟨_, rfl, q.1, f.val wt (.str _) q.2⟩)
  · cases r with
    | cons r rr => cases rr; cases r; exact .inr (.inr (.inl ⟨_, rfl, f.val wt (.str _) q⟩))
  · cases r with
    | cons r rr => cases rr; cases r; exact .inr (.inr (.inr ⟨rfl, f.val wt (.str _) q⟩))
  · exact q.elim
end
end L2.G

namespace L2.G
open PySem PySem.Spec PyProof.Rows

section
variable {X : Cx} {a b e : Expr} {fa fb fe : dE} {pos : Pos}
/-! slices -/
abbrev dP := En → Tk → (Option Int → Tk → Prop) → Prop
def tDO (K : PySem.W.Frag) (f : dP) : TO := fun σ H Q => ∃ ρ T t F k, Wd K ρ T t σ F H ∧ f ρ T k ∧ ∀ o H' F' T', Wt K T' t F' H' → Grow t F H F' H' → k o T' → Q o H'
abbrev POd (X : Cx) (e : Option Expr) (f : dP) : Prop := PO X e (tDO X.K f)
theorem po_imp {e : Option Expr} {t u : TO} (h : PO X e t) (i : ∀ σ H Q, u σ H Q → t σ H Q) : PO X e u := ⟨fun pins s σ H Q I q => h.run pins s σ H Q I (i _ _ _ q)⟩
theorem p_none : POd X none (fun _ T k => k none T) := by
  refine po_imp po_none fun σ H Q h => ?_
  obtain ⟨ρ, T, t, F, k, w, h, f⟩ := h
  exact f _ _ _ _ w.wt (Grow.refl _ _ _) h
def pSome (fe : dE) : dP := fun ρ T k => fe ρ T fun d T1 => match d with | .int i => k (some i) T1 | _ => False
theorem p_some (he : PEd X e fe) : POd X (some e) (pSome fe) := by
  refine po_imp (po_some he) fun σ H Q h => ?_
  obtain ⟨ρ, T, t, F, k, w, h, f⟩ := h
  refine ⟨ρ, T, t, F, _, w, h, fun v H1 F1 x T1 w1 g1 r1 h1 => ?_⟩
  split at h1
  · cases r1; exact ⟨_, rfl, f _ _ _ _ w1 g1 h1⟩
  · exact h1.elim
def cutD (xs : List D) (lo hi : Option Int) : List D := (xs.drop (HT.sIx xs.length 0 lo)).take (HT.sIx xs.length xs.length hi - HT.sIx xs.length 0 lo)
theorem cut_rep {K : PySem.W.Frag} {F : Hp} {ds : List D} {vs : List V} (r : RepL K F ds vs) (lo hi : Option Int) : RepL K F (cutD ds lo hi) (cutV vs lo hi) := by
  unfold cutD cutV
  rw [r.len]
  exact (r.drop _).take _
def dSl (fe : dE) (lo hi : dP) : dE := fun ρ T k => fe ρ T fun x T1 => lo ρ T1 fun l T2 => hi ρ T2 fun h T3 => match x with | .lst xs => k (.lst (cutD xs l h)) T3 | .scr xs => k (.lst (cutD xs l h)) T3 | .tup xs => k (.tup (cutD xs l h)) T3 | _ => False
theorem d_slice {lo hi : Option Expr} {fl fh : dP} {p2 : Pos} (he : PEd X e fe) (hl : POd X lo fl) (hh : POd X hi fh) : PEd X (.Subscript e (.Slice lo hi none p2) pos) (dSl fe fl fh) := by
  refine pe_imp (pe_slice (sl_list.or sl_tupA) he hl hh) fun σ H Q h => ?_
  obtain ⟨ρ, T, t, F, k, w, h, f⟩ := h
  refine ⟨ρ, T, t, F, _, w, h, fun v H1 F1 x T1 w1 g1 r1 h1 => ?_⟩
  refine ⟨ρ, T1, t, F1, _, w.grow g1 w1, h1, fun l H2 F2 T2 w2 g2 h2 => ?_⟩
  refine ⟨ρ, T2, t, F2, _, (w.grow g1 w1).grow g2 w2, h2, fun u H3 F3 T3 w3 g3 h3 => ?_⟩
  have r3 := (r1.mono g2.sub).mono g3.sub
  have f3 := f.then ((g1.trans g2).trans g3)
  split at h3
  · obtain ⟨p, vs, rfl, h, r⟩ := rep_lst r3
    exact .inl ⟨p, vs, rfl, .of (w3.sub _ _ h), fun q hq => f3.lst w3 (cut_rep r l u) hq h3⟩
  · obtain ⟨p, vs, rfl, h, r⟩ := rep_scr r3
    exact .inl ⟨p, vs, rfl, w3.sub.seq h, fun q hq => f3.lst w3 (cut_rep r l u) hq h3⟩
  · have r0 := r3
    obtain ⟨p, vs, rfl, h, r⟩ := rep_tup r3
    refine .inr ⟨p, vs, rfl, same_t w3.sub h, fun hw => ?_, fun _ q hq => f3.tup w3 (cut_rep r l u) hq h3⟩
    rename_i xs
    have e : cutD xs l u = xs := by
      unfold cutD
      rw [r.len, hw.1, hw.2, Nat.sub_zero, List.drop_zero, ← r.len, List.take_length]
    rw [e] at h3
    exact f3.val w3 r0 h3
  · exact h3.elim

/-! xs + ys, xs * n -/
def oCat : Op2 := fun x y k => match x, y with
  | .lst xs, .lst ys => xs.length + ys.length ≤ 1000000 ∧ k (.lst (xs ++ ys))
  | .tup xs, .tup ys => xs.length + ys.length ≤ 1000000 ∧ k (.tup (xs ++ ys))
  | .str s, .str u => s.length + u.length ≤ 1000000 ∧ k (.str (s ++ u))
  | _, _ => False
theorem oCat_ok {K : PySem.W.Frag} : OpS K (fun x y H Q => (rCat x y H Q ∨ rCatA K x y H Q) ∨ ∃ i j, x = .str i ∧ y = .str j ∧ i.length + j.length ≤ sizeLine ∧ Q (.str (i ++ j)) H) oCat := by
  intro t F H T x y v w k Q wt r1 r2 q f
  unfold oCat at q
  split at q
  · obtain ⟨a, vs, rfl, h1, r1⟩ := rep_lst r1
    obtain ⟨b, ws, rfl, h2, r2⟩ := rep_lst r2
    exact .inl (.inl ⟨a, b, vs, ws, rfl, rfl, wt.sub _ _ h1, wt.sub _ _ h2, by rw [← r1.len, ← r2.len]; exact small_line q.1, fun p hp => f.lst wt (r1.app r2) hp q.2⟩)
  · have p1 := r1
    have p2 := r2
    obtain ⟨a, vs, rfl, h1, r1⟩ := rep_tup r1
    obtain ⟨b, ws, rfl, h2, r2⟩ := rep_tup r2
    refine .inl (.inr ⟨a, b, vs, ws, rfl, rfl, same_t wt.sub h1, same_t wt.sub h2, by rw [← r1.len, ← r2.len]; exact small_line q.1, fun e => ?_, fun _ e => ?_, fun _ _ p hp => f.tup wt (r1.app r2) hp q.2⟩)
    · subst e
      cases r1
      exact f.val wt p2 q.2
    · subst e
      cases r2
      rw [List.append_nil] at q
      exact f.val wt p1 q.2
  · cases r1
    cases r2
    exact .inr ⟨_, _, rfl, rfl, small_line q.1, f.val wt (.str _) q.2⟩
  · exact q.elim
/-! in -/
theorem pyL_any {p : PyData → Bool} : ∀ ys : List D, (D.pyL ys).any p = ys.any fun z => p z.py
  | [] => rfl
  | y :: ys => by simp [D.pyL, pyL_any ys]
/-! isinstance(e, T), T a built-in type -/
def D.ty : D → String
  | .non => "NoneType" | .bl _ => "bool" | .int _ => "int" | .str _ => "str" | .tup _ => "tuple" | .lst _ => "list" | .scr _ => "list" | .obj _ _ _ => "" | .ref _ => "" | .dct _ _ => "dict"
inductive Ty where | int | bool | str | tuple | list
def Ty.name : Ty → String | .int => "int" | .bool => "bool" | .str => "str" | .tuple => "tuple" | .list => "list"
def isTy : Ty → D → Option Bool
  | _, .obj _ _ _ => none
  | _, .ref _ => none
  | .int, .int _ => some true
  | .int, .bl _ => some true
  | .bool, .bl _ => some true
  | .str, .str _ => some true
  | .tuple, .tup _ => some true
  | .list, .lst _ => some true
  | .list, .scr _ => some true
  | _, _ => some false
theorem isTy_kit {T : Ty} {d : D} {r : Bool} (h : isTy T d = some r) : kitB d.ty T.name = some r := by
  cases T <;> cases d <;> simp [isTy] at h <;> subst h <;> simp only [D.ty, Ty.name] <;> decide +kernel
theorem rep_ty {K : PySem.W.Frag} {F H : Hp} (s : Same F H) {d : D} {v : V} (r : Rep K F d v) (h1 : ∀ C ns vs, d ≠ .obj C ns vs) (h2 : ∀ a, d ≠ .ref a) : TyX K H v (.type d.ty) := by
  cases r with
  | non => exact .base .non
  | bl b => exact .base (.bl b)
  | int i => exact .base (.int i)
  | str x => exact .base (.str x)
  | tup h _ =>
    rcases h with (h | ⟨o, h⟩) | ⟨o, its, n, h, c, _⟩
    · exact .base (.tup (s _ _ h))
    · exact .fTuple (s _ _ h)
    · exact .kTuple h c
  | lst h _ => exact .base (.lst (s _ _ h))
  | scr h _ =>
    rcases h with (h | ⟨o, h⟩) | ⟨o, its, n, h, c, _⟩
    · exact .base (.lst (s _ _ h))
    · exact .base (.frz (s _ _ h))
    · exact .kList h c
  | dct h _ _ => exact .base (.dK (s _ _ h))
  | obj _ _ _ => exact absurd rfl (h1 _ _ _)
  | ref a _ => exact absurd rfl (h2 a)
def dIsi (T : Ty) (fe : dE) : dE := fun ρ S k => fe ρ S fun d S1 => match isTy T d with | some r => k (.bl r) S1 | none => False
theorem d_isi (T' : Ty) {T : Str} {p p2 : Pos} (he : PEd X e fe) (hm : X.mg "isinstance" = none) (hmT : X.mg T = none) (hv : bootBuiltins T = some (.type T'.name) := by decide +kernel) (hg : Gl X "isinstance" := by rfl) (hgT : Gl X T := by rfl) (hn : T ≠ "__name__" := by decide) (hd : (T == ("__debug__" : Str)) = false := by decide)
    (hs : starEach [e, .Name T p2] X.env = (false, eval e X.env) :: starEach [.Name T p2] X.env := by rfl) (hp : (backTo pos (starEach [.Name T p2] X.env)).any (·.1) = false := by rfl) :
    PEd X (.Call (.Name "isinstance" p) [e, .Name T p2] [] pos) (dIsi T' fe) := by
  refine pe_imp (pe_callB call_isi hg hm (by decide +kernel) (pa_cons he (pa_cons (pe_bltn (v := .ty T'.name) hgT hmT hv rfl hn hd) pa_nil) hs) (by decide) (by decide) hs hp) fun σ H Q h => ?_
  obtain ⟨ρ, S, t, F, k, w, h, f⟩ := h
  refine ⟨ρ, S, t, F, _, w, h, fun v H1 F1 d S1 w1 g1 r1 h1 => ?_⟩
  split at h1
  · rename_i r e
    refine ⟨v, .ty T'.name, _, _, r, rfl, .ty T'.name, rep_ty w1.sub r1 (fun C ns vs z => ?_) (fun a z => ?_), kit_ty (isTy_kit e), (f.then g1).val w1 (.bl _) h1⟩
    · subst z; simp [isTy] at e
    · subst z; simp [isTy] at e
  · exact h1.elim
end

/-! lists of the def's own -/
section
variable {X : Cx} {e : Expr} {es : List Expr} {fe : dE} {fr : dA} {pos : Pos} {st : Stmt} {f : dS}
theorem Ws.own {K : PySem.W.Frag} {ρ : En} {T : Tk} {t : Option Addr} {σ : L2.St} {F0 H0 F H : Hp} (w : Ws K ρ T t σ F0 H0 F H) {i : Nat} {l : Addr} {xs : List D} {vs : List V} (hn : H l = none) (r : RepL K F xs vs) :
    Ws K (ρ.set i (some (.own xs))) T t (σ.set i (some (.ref l))) F0 H0 F (upd H l (.lst vs)) := by
  have hF : F l = none := w.w.wt.sub.free hn
  have g : Grow t F H F (upd H l (.lst vs)) := grow_own w.w.wt.sub hn
  have w1 := w.grow g (wt_own w.w.wt hn)
  have hl0 : H0 l = none := by
    cases q : H0 l with
    | none => rfl
    | some o => obtain ⟨o', h'⟩ := w.g.there l o q; rw [hn] at h'; cases h'
  have old : ∀ (j : Nat) (ys : List D) (m : Addr), ρ[j]? = some (some (SV.own ys)) → σ[j]? = some (some (V.ref m)) → m ≠ l := fun j ys m e1 e2 => by
    obtain ⟨v, h1, l', ws, rfl, _, h3, _, _⟩ := w.w.slot j _ e1
    rw [e2] at h1
    cases h1
    exact ne_of_none h3 hn
  refine ⟨⟨w1.w.wt, by simpa using w.w.len, fun j s e => ?_, fun j j' ys zs m e1 e2 e3 e4 => ?_⟩, w1.g, fun j ys m e1 e2 => ?_⟩
  · rcases getSet e with ⟨rfl, hl, e'⟩ | ⟨ne, e'⟩
    · cases e'
      refine ⟨.ref l, by rw [List.getElem?_set_self (by rw [← w.w.len]; exact hl)], l, vs, rfl, hF, upd_same, r, fun z => ?_⟩
      obtain ⟨_, us, hu, _⟩ := w.w.wt.tank l z
      rw [hn] at hu
      cases hu
    · obtain ⟨u, h1, h2⟩ := w1.w.slot j s e'
      exact ⟨u, by rw [List.getElem?_set_ne ne]; exact h1, h2⟩
  · rcases getSet e1 with ⟨rfl, hl1, _⟩ | ⟨n1, e1⟩
    · rcases getSet e2 with ⟨rfl, _, _⟩ | ⟨n2, e2⟩
      · rfl
      · rw [List.getElem?_set_self (by rw [← w.w.len]; exact hl1)] at e3
        cases e3
        rw [List.getElem?_set_ne n2] at e4
        exact absurd rfl (old j' zs _ e2 e4)
    · rw [List.getElem?_set_ne n1] at e3
      rcases getSet e2 with ⟨rfl, hl2, _⟩ | ⟨n2, e2⟩
      · rw [List.getElem?_set_self (by rw [← w.w.len]; exact hl2)] at e4
        cases e4
        exact absurd rfl (old j ys _ e1 e3)
      · rw [List.getElem?_set_ne n2] at e4
        exact w.w.apart j j' ys zs m e1 e2 e3 e4
  · rcases getSet e1 with ⟨rfl, hl1, _⟩ | ⟨n1, e1⟩
    · rw [List.getElem?_set_self (by rw [← w.w.len]; exact hl1)] at e2
      cases e2
      exact hl0
    · rw [List.getElem?_set_ne n1] at e2
      exact w.fr j ys m e1 e2
/-- x = [..], x a list that this def will change -/
def sOwn (i : Nat) (fr : dA) : dS := fun k ρ T => fr ρ T fun as T1 => match vals? as with | some ds => ds.length ≤ 1000000 ∧ k.nx (ρ.set i (some (.own ds))) T1 | none => False
theorem s_own (i : Nat) {x : Str} {pos' lp : Pos} (hN : X.N.Nodup) (ha : PAd X es fr) (hi : X.N[i]? = some x := by rfl) (hx : Loc X.env.scope x := by first | exact Or.inl rfl | exact Or.inr rfl) (hs : swapsWith (.List es lp) (some (.Name x pos')) pos.line X.env = pure false := by rfl)
    (hf : X.fn x = true ∨ X.env.scope.names.lookup x = some .local := by first | exact .inl rfl | exact .inr rfl | assumption) : PSd X (.Assign [.Name x pos'] (.List es lp) pos) (sOwn i fr) := by
  refine ps_imp (ps_set hN hi hx (pe_lst ha) hs hf) fun E σ H h => ?_
  obtain ⟨ρ, T, t, F0, H0, F, k, w, h, fe⟩ := h
  refine ⟨ρ, T, t, F, _, w.w, h, fun vs H1 F1 as T1 w1 g1 r1 h1 => ?_⟩
  split at h1
  · rename_i ds e
    have r := r1.vals e
    exact ⟨by rw [← r.len]; exact small_line h1.1, fun p hp => fe.nx _ _ _ _ _ ((w.grow g1 w1).own hp r) g1.sub h1.2⟩
  · exact h1.elim
/-- it will not be changed any more -/
def sFrz (i : Nat) (f : dS) : dS := fun k ρ T => match ρ[i]? with | some (some (.own xs)) => f k (ρ.set i (some (.val (.lst xs)))) T | _ => False
theorem Ws.frz {K : PySem.W.Frag} {ρ : En} {T : Tk} {t : Option Addr} {σ : L2.St} {F0 H0 F H : Hp} (w : Ws K ρ T t σ F0 H0 F H) {i : Nat} {xs : List D} (e : ρ[i]? = some (some (.own xs))) :
    ∃ F', Same F F' ∧ Ws K (ρ.set i (some (.val (.lst xs)))) T t σ F0 H0 F' H := by
  obtain ⟨v, hv, l, vs, rfl, hF, hH, r, nt⟩ := w.w.slot i _ e
  have sm : Same F (upd F l (.lst vs)) := same_upd hF
  have sub : Same (upd F l (.lst vs)) H := fun b u q => by
    by_cases hb : b = l
    · subst hb; rw [upd_same] at q; cases q; exact hH
    · rw [upd_ne hb] at q; exact w.w.wt.sub b u q
  have wt : Wt K T t (upd F l (.lst vs)) H := ⟨sub, fun a ea => by
    obtain ⟨n, us, hu, ru⟩ := w.w.wt.tank a ea
    have ne : a ≠ l := fun z => nt (by rw [ea, z])
    exact ⟨by rw [upd_ne ne]; exact n, us, hu, ru.mono sm⟩⟩
  refine ⟨_, sm, ⟨wt, by simpa using w.w.len, fun j s ej => ?_, fun j j' ys zs m e1 e2 e3 e4 => ?_⟩, ⟨w.g.sub.trans sm, w.g.keep, fun a o h0 n0 => ?_, w.g.there⟩, fun j ys m e1 e2 => ?_⟩
  · rcases getSet ej with ⟨rfl, _, e'⟩ | ⟨ne, e'⟩
    · cases e'
      exact ⟨.ref l, hv, .lst upd_same (r.mono sm)⟩
    · obtain ⟨u, h1, h2⟩ := w.w.slot j s e'
      refine ⟨u, h1, ?_⟩
      cases s with
      | val d => exact Rep.mono sm h2
      | tank => exact h2
      | exc _ _ => exact ⟨h2.1, fun dd fl x q => let ⟨n, u, f1, r1⟩ := h2.2 dd fl x q; ⟨n, u, f1, r1.mono sm⟩⟩
      | own ys =>
        obtain ⟨m, us, rfl, f1, f2, f3, f4⟩ := h2
        have nm : m ≠ l := fun z => ne (w.w.apart i j xs ys l e e' hv (z ▸ h1))
        exact ⟨m, us, rfl, by rw [upd_ne nm]; exact f1, f2, f3.mono sm, f4⟩
  · rcases getSet e1 with ⟨_, _, z⟩ | ⟨n1, e1⟩
    · cases z
    · rcases getSet e2 with ⟨_, _, z⟩ | ⟨n2, e2⟩
      · cases z
      · exact w.w.apart j j' ys zs m e1 e2 e3 e4
  · have ne : a ≠ l := fun z => by
      have q := w.fr i xs l e hv
      rw [z, q] at h0
      cases h0
    rw [upd_ne ne]
    exact w.g.new a o h0 n0
  · rcases getSet e1 with ⟨_, _, z⟩ | ⟨n1, e1⟩
    · cases z
    · exact w.fr j ys m e1 e2
theorem Ws.chg {K : PySem.W.Frag} {ρ : En} {T : Tk} {t : Option Addr} {σ : L2.St} {F0 H0 F H : Hp} (w : Ws K ρ T t σ F0 H0 F H) {i : Nat} {xs ys : List D} {l : Addr} {ws : List V} (e : ρ[i]? = some (some (.own xs))) (hv : σ[i]? = some (some (.ref l))) (r : RepL K F ys ws) :
    Ws K (ρ.set i (some (.own ys))) T t σ F0 H0 F (upd H l (.lst ws)) := by
  obtain ⟨v, hv2, l2, vs, rfl, hF, hH, r0, nt⟩ := w.w.slot i _ e
  rw [hv] at hv2
  cases hv2
  have ne_t : ∀ a, t = some a → a ≠ l := fun a ea z => nt (by rw [ea, z])
  refine ⟨⟨⟨fun b u q => ?_, fun a ea => ?_⟩, by simpa using w.w.len, fun j s ej => ?_, fun j j' ys' zs m e1 e2 e3 e4 => ?_⟩, ⟨w.g.sub, fun a o h0 n0 => ?_, w.g.new, fun a o h0 => ?_⟩, fun j ys' m e1 e2 => ?_⟩
  · have ne : b ≠ l := fun z => by rw [z, hF] at q; cases q
    rw [upd_ne ne]
    exact w.w.wt.sub b u q
  · obtain ⟨n, us, hu, ru⟩ := w.w.wt.tank a ea
    exact ⟨n, us, by rw [upd_ne (ne_t a ea)]; exact hu, ru⟩
  · rcases getSet ej with ⟨rfl, _, e'⟩ | ⟨ne, e'⟩
    · cases e'
      exact ⟨.ref l, hv, l, ws, rfl, hF, upd_same, r, nt⟩
    · obtain ⟨u, h1, h2⟩ := w.w.slot j s e'
      refine ⟨u, h1, ?_⟩
      cases s with
      | val d => exact h2
      | tank => exact h2
      | exc _ _ => exact ⟨h2.1, fun dd fl x q => let ⟨n, u, f1, r1⟩ := h2.2 dd fl x q; ⟨n, u, by rw [upd_ne (fun z => by rw [z, hH] at f1; cases f1)]; exact f1, r1⟩⟩
      | own zs =>
        obtain ⟨m, us, rfl, f1, f2, f3, f4⟩ := h2
        have nm : m ≠ l := fun z => ne (w.w.apart i j xs zs l e e' hv (z ▸ h1))
        exact ⟨m, us, rfl, f1, by rw [upd_ne nm]; exact f2, f3, f4⟩
  · have back : ∀ {j : Nat} {zs : List D}, (ρ.set i (some (.own ys)))[j]? = some (some (.own zs)) → ∃ zs', ρ[j]? = some (some (.own zs')) := fun {j zs} q => by
      rcases getSet q with ⟨rfl, _, _⟩ | ⟨_, q⟩
      · exact ⟨_, e⟩
      · exact ⟨_, q⟩
    obtain ⟨_, q1⟩ := back e1
    obtain ⟨_, q2⟩ := back e2
    exact w.w.apart j j' _ _ m q1 q2 e3 e4
  · have ne : a ≠ l := fun z => by
      have q := w.fr i xs l e hv
      rw [z, q] at h0
      cases h0
    rw [upd_ne ne]
    exact w.g.keep a o h0 n0
  · have ne : a ≠ l := fun z => by
      have q := w.fr i xs l e hv
      rw [z, q] at h0
      cases h0
    rw [upd_ne ne]
    exact w.g.there a o h0
  · rcases getSet e1 with ⟨rfl, _, _⟩ | ⟨_, e1⟩
    · exact w.fr i xs m e e2
    · exact w.fr j ys' m e1 e2
/-- x.append(e) -/
def sApp (i : Nat) (fe : dE) : dS := fun k ρ T => match ρ[i]? with | some (some (.own xs)) => fe ρ T fun d T1 => xs.length < 1000000 ∧ k.nx (ρ.set i (some (.own (xs ++ [d])))) T1 | _ => False
theorem s_app (i : Nat) {x : Str} {p1 p2 p3 p4 : Pos} (he : PEd X e fe) (hN : X.N[i]? = some x := by rfl) (hv : Vis X.env.scope x := by first | exact Or.inl rfl | exact Or.inr (Or.inl rfl) | exact Or.inr (Or.inr rfl))
    (hd : (x == ("__debug__" : Str)) = false := by decide) (hc : (x == ("__classdict__" : Str)) = false := by decide)
    (h1 : starEach [e] X.env = (false, eval e X.env) :: starEach [] X.env := by rfl) (h2 : attributeBase (.Name x p1) "append" X.env (eval (.Name x p1) X.env) = eval (.Name x p1) X.env := by rfl) (h3 : (p2.endLine == p3.line) = true := by rfl)
    (hs : swapsWith (.Call (.Attribute (.Name x p1) "append" p2) [e] [] p3) none p4.line X.env = pure false := by rfl)
    (hfew : ((backTo p3 (starEach [e] X.env)).all (fun x => !x.1) && (backToKw p3 (keywordEach [] X.env)).all (fun x => x.1.isSome) && decide (([e] : List Expr).length + ([] : List Keyword).length + (if ([] : List Keyword).isEmpty then 0 else 1) < 30)) = true := by rfl) :
    PSd X (.Expr (.Call (.Attribute (.Name x p1) "append" p2) [e] [] p3) p4) (sApp i fe) := by
  refine ps_imp (ps_expr (pe_bm PySem.F.plainAttrs_list PySem.F.slot_list_append PySem.F.type_list_append mt_append (pe_var (i := i) hN hv hd hc) (pa_cons he pa_nil h1) h2 hfew h3 h1) hs) fun E σ H h => ?_
  obtain ⟨ρ, T, t, F0, H0, F, k, w, h, fE⟩ := h
  unfold sApp at h
  split at h
  · rename_i xs e0
    obtain ⟨v, hv, l, vs, rfl, hF, hH, r, nt⟩ := w.w.slot i _ e0
    refine ⟨_, hv, .inl ⟨rfl, _, .of hH⟩, ρ, T, t, F, _, w.w, h, fun u H1 F1 d T1 w1 g1 r1 h1 => ?_⟩
    have hH1 := g1.keep _ _ hH nt
    have r' := (r.mono g1.sub).app (.cons r1 .nil)
    refine ⟨l, vs, u, rfl, rfl, hH1, by rw [← r.len, sizeLine_eq]; omega, ?_⟩
    exact fE.nx _ _ _ _ _ ((w.grow g1 w1).chg e0 hv r') g1.sub h1.2
  · exact h.elim
end
end L2.G

namespace L2.G
open PySem PySem.Spec PyProof.Rows

/-! what is walked -/
structure Src (K : PySem.W.Frag) (t : Option Addr) (J : It) (F1 : Hp) (xs : List D) : Prop where
  go : ∀ i F H, Same F1 F → Same F H → i < xs.length → J.go i H
  yl : ∀ i T F H x H', Same F1 F → Wt K T t F H → i < xs.length → J.yld i H x H' → ∃ F' d, xs[i]? = some d ∧ Rep K F' d x ∧ Grow t F H F' H' ∧ Wt K T t F' H'
  st : ∀ F H, Same F1 F → Same F H → J.stop xs.length H
abbrev dI := En → Tk → (List D → Tk → Prop) → Prop
def tDI (K : PySem.W.Frag) (f : dI) : TI := fun σ H R => ∃ ρ T t F k, Wd K ρ T t σ F H ∧ f ρ T k ∧ ∀ J H' F' xs T', Wt K T' t F' H' → Grow t F H F' H' → Src K t J F' xs → xs.length ≤ 1000000 → k xs T' → R J H'
abbrev PId (X : Cx) (tg it : Expr) (f : dI) : Prop := PI X tg it (tDI X.K f)
theorem pi_imp {X : Cx} {tg e : Expr} {t u : TI} (h : PI X tg e t) (i : ∀ σ H Q, u σ H Q → t σ H Q) : PI X tg e u := ⟨fun pins s σ H Q I q => h.run pins s σ H Q I (i _ _ _ q)⟩

section
variable {X : Cx} {tg e e2 : Expr} {fe : dE} {fr : dA} {p pos : Pos} {f : dS}
theorem src_list {K : PySem.W.Frag} {t : Option Addr} {F1 : Hp} {a : Addr} {xs : List D} {vs : List V} (h : F1 a = some (.lst vs)) (r : RepL K F1 xs vs) : Src K t (Itl K a) F1 xs where
  go := fun i F H s1 s2 hi => by
    rw [r.len] at hi
    exact ⟨vs, vs[i], .of (s2 _ _ (s1 _ _ h)), by simp [hi]⟩
  yl := fun i T F H x H' s1 w hi y => by
    obtain ⟨rfl, y⟩ := y
    obtain ⟨d, hd, rd⟩ := r.getV (y vs (.of (w.sub _ _ (s1 _ _ h))))
    exact ⟨F, d, hd, rd.mono s1, Grow.refl _ _ _, w⟩
  st := fun F H s1 s2 => ⟨vs, .of (s2 _ _ (s1 _ _ h)), by rw [r.len]; exact Nat.le_refl _⟩
theorem src_tup {K : PySem.W.Frag} {t : Option Addr} {F1 : Hp} {a : Addr} {xs : List D} {vs : List V} (h : SqT K F1 a vs) (r : RepL K F1 xs vs) : Src K t (Itt K a) F1 xs where
  go := fun i F H s1 s2 hi => by
    rw [r.len] at hi
    exact ⟨vs, vs[i], same_t (s1.trans s2) h, by simp [hi]⟩
  yl := fun i T F H x H' s1 w hi y => by
    obtain ⟨rfl, y⟩ := y
    obtain ⟨d, hd, rd⟩ := r.getV (y vs (same_t (s1.trans w.sub) h))
    exact ⟨F, d, hd, rd.mono s1, Grow.refl _ _ _, w⟩
  st := fun F H s1 s2 => ⟨vs, same_t (s1.trans s2) h, by rw [r.len]; exact Nat.le_refl _⟩
theorem src_rng {K : PySem.W.Frag} {t : Option Addr} {F1 : Hp} {lo : Int} {n : Nat} : Src K t (Itr lo n) F1 (intsL lo n) where
  go := fun i F H s1 s2 hi => by rw [intsL_len] at hi; exact hi
  yl := fun i T F H x H' s1 w hi y => by
    rw [intsL_len] at hi
    obtain ⟨rfl, rfl⟩ := y
    exact ⟨F, _, intsL_get n lo i hi, .int _, Grow.refl _ _ _, w⟩
  st := fun F H s1 s2 => by rw [intsL_len]; exact Nat.le_refl n
def iR1 (fr : dA) : dI := fun ρ T k => fr ρ T fun as T1 => match as with | [.val (.int j)] => j ≤ 1000000 ∧ -(2 ^ 62) ≤ j ∧ k (intsL 0 j.toNat) T1 | _ => False
def iR2 (fr : dA) : dI := fun ρ T k => fr ρ T fun as T1 => match as with | [.val (.int i), .val (.int j)] => (j - i ≤ 1000000 ∧ -(2 ^ 61) ≤ i ∧ i < 2 ^ 61 ∧ -(2 ^ 61) ≤ j ∧ j < 2 ^ 61) ∧ k (intsL i (j - i).toNat) T1 | _ => False
theorem i_range1 {a : Expr} (hm : X.mg "range" = none) (ha : PAd X [a] fr) (hg : Gl X "range" := by rfl) (hs : starEach [a] X.env = [(false, eval a X.env)] := by rfl) : PId X tg (.Call (.Name "range" p) [a] [] pos) (iR1 fr) := by
  refine pi_imp (pi_range1 hg hm ha hs) fun σ H R h => ?_
  obtain ⟨ρ, T, t, F, k, w, h, f⟩ := h
  refine ⟨ρ, T, t, F, _, w, h, fun vs H1 F1 as T1 w1 g1 r1 h1 => ?_⟩
  split at h1
  · rename_i j
    cases r1 with
    | val r1 rr =>
      cases rr
      cases r1
      exact ⟨j, rfl, h1.2.1, by have := h1.1; omega, f _ _ _ _ _ w1 g1 src_rng (by rw [intsL_len]; have := h1.1; omega) h1.2.2⟩
  · exact h1.elim
/-- zip of two lists of one length -/
def zipD (xs ys : List D) : List D := List.zipWith (fun x y => D.tup [x, y]) xs ys
def iZ (fr : dA) : dI := fun ρ T k => fr ρ T fun as T1 => match as with | [.val (.lst xs), .val (.lst ys)] => (zipD xs ys).length ≤ 1000000 ∧ k (zipD xs ys) T1 | _ => False
/-! for -/
def sForI (fi : dI) (g : dG) (f : dS) : dS := fun k ρ T => fi ρ T fun xs T1 => forL g f k xs ρ T1
theorem s_forI {body : List Stmt} {g : dG} {fi : dI} (hp : PassesOwn (model X.prog X.w) X.A X.env X.xe) (hc : X.calm = true) (hi : PId X tg e fi) (hg : PGd X tg g) (hb : PSsd X body f) (hst : ∀ x, foldedSetIterable e X.env x = pure x := by intro _; rfl) : PSd X (.For tg e body [] pos) (sForI fi g f) := by
  refine ps_imp (ps_for hp hc hi hg hb hst) fun E σ H h => ?_
  obtain ⟨ρ, T, t, F0, H0, F, k, w, h, fE⟩ := h
  refine ⟨ρ, T, t, F, _, w.w, h, fun J H1 F1 xs T1 w1 g1 src hl h1 => ?_⟩
  refine ⟨fun i m σ' H' => m = xs.length - i ∧ i ≤ xs.length ∧ ∃ ρ' T' F', Ws X.K ρ' T' t σ' F0 H0 F' H' ∧ Same F1 F' ∧ forL g f k (xs.drop i) ρ' T', ⟨xs.length, by simp, Nat.zero_le _, ρ, T1, F1, w.grow g1 w1, Same.refl _, h1⟩, ?_⟩
  rintro i m σ' H' ⟨rfl, hi, ρ', T', F', w', s', hh⟩
  by_cases lt : i < xs.length
  · refine .inr ⟨src.go i F' H' s' w'.w.wt.sub lt, fun σ2 H2 => ∃ ρ' T' F', Ws X.K ρ' T' t σ2 F0 H0 F' H2 ∧ Same F1 F' ∧ forL g f k (xs.drop (i + 1)) ρ' T', fun σ2 H2 q => ⟨xs.length - (i + 1), by omega, rfl, lt, q⟩, fun x H2 y => ?_⟩
    obtain ⟨F2, d, hd, rd, g2, w2⟩ := src.yl i T' F' H' x H2 s' w'.w.wt lt y
    have hx : xs.drop i = d :: xs.drop (i + 1) := by rw [List.drop_eq_getElem_cons lt, (List.getElem?_eq_some_iff.mp hd).2]
    rw [hx] at hh
    have sF := (g1.sub.trans s').trans g2.sub
    refine ⟨ρ', T', t, F0, H0, F2, d, _, w'.grow g2 w2, rd, hh, fun ρ3 T3 σ3 F3 H3 w3 s3 h3 => ?_⟩
    have s3' := (s'.trans g2.sub).trans s3
    refine ⟨ρ3, T3, t, F0, H0, F3, _, w3, h3, ?_⟩
    exact ⟨fun ρ4 T4 σ4 F4 H4 w4 s4 q => ⟨ρ4, T4, F4, w4, s3'.trans s4, q⟩, fE.rt, fE.nx.to (sF.trans s3), fun ρ4 T4 σ4 F4 H4 w4 s4 q => ⟨ρ4, T4, F4, w4, s3'.trans s4, q⟩⟩
  · have e : i = xs.length := by omega
    subst e
    rw [List.drop_length] at hh
    exact .inl ⟨src.st F' H' s' w'.w.wt.sub, fE.nx _ _ _ _ _ w' (g1.sub.trans s') hh⟩

/-! comprehensions -/
theorem wipe_get : ∀ {vs : List Nat} {σ : L2.St} {j : Nat}, (wipe σ vs)[j]? = if j ∈ vs ∧ j < σ.length then some none else σ[j]?
  | [], σ, j => by simp [wipe]
  | v :: vs, σ, j => by
    unfold wipe
    by_cases e : v = j
    · subst e
      by_cases hl : v < σ.length
      · rw [List.getElem?_set_self (by rw [wipe_length]; exact hl), if_pos ⟨List.mem_cons_self, hl⟩]
      · rw [List.getElem?_eq_none (by rw [List.length_set, wipe_length]; omega), if_neg (fun z => hl z.2), List.getElem?_eq_none (by omega)]
    · rw [List.getElem?_set_ne e, wipe_get]
      have : (j ∈ v :: vs) ↔ j ∈ vs := by simp [Ne.symm e]
      simp only [this]
theorem wipe_set {vs : List Nat} {σ : L2.St} {i : Nat} {v : Option V} (h : i ∈ vs) : wipe (σ.set i v) vs = wipe σ vs := by
  apply List.ext_getElem?
  intro j
  rw [wipe_get, wipe_get, List.length_set]
  by_cases e : i = j
  · subst e
    by_cases hl : i < σ.length
    · rw [if_pos ⟨h, hl⟩, if_pos ⟨h, hl⟩]
    · rw [if_neg (fun z => hl z.2), if_neg (fun z => hl z.2), List.getElem?_eq_none (by simpa using hl), List.getElem?_eq_none (by simpa using hl)]
  · rw [List.getElem?_set_ne e]
theorem wipe_idem {vs : List Nat} {σ : L2.St} : wipe (wipe σ vs) vs = wipe σ vs := by
  apply List.ext_getElem?
  intro j
  rw [wipe_get, wipe_get, wipe_length]
  split
  · rfl
  · rfl
def wipeD (ρ : En) : List Nat → En
  | [] => ρ
  | v :: vs => (wipeD ρ vs).set v none
theorem wd_none {K : PySem.W.Frag} {ρ : En} {T : Tk} {t : Option Addr} {σ : L2.St} {F H : Hp} (w : Wd K ρ T t σ F H) (i : Nat) : Wd K (ρ.set i none) T t (σ.set i none) F H := by
  refine ⟨w.wt, by simpa using w.len, fun j s e => ?_, fun j j' xs ys l e1 e2 e3 e4 => ?_⟩
  · rcases getSet e with ⟨_, _, z⟩ | ⟨ne, e'⟩
    · cases z
    · obtain ⟨u, h1, h2⟩ := w.slot j s e'
      exact ⟨u, by rw [List.getElem?_set_ne ne]; exact h1, h2⟩
  · rcases getSet e1 with ⟨_, _, z⟩ | ⟨n1, e1⟩
    · cases z
    · rcases getSet e2 with ⟨_, _, z⟩ | ⟨n2, e2⟩
      · cases z
      · rw [List.getElem?_set_ne n1] at e3
        rw [List.getElem?_set_ne n2] at e4
        exact w.apart j j' xs ys l e1 e2 e3 e4
theorem wd_wipe {K : PySem.W.Frag} {ρ : En} {T : Tk} {t : Option Addr} {σ : L2.St} {F H : Hp} (w : Wd K ρ T t σ F H) : ∀ vs : List Nat, Wd K (wipeD ρ vs) T t (wipe σ vs) F H
  | [] => w
  | v :: vs => wd_none (wd_wipe w vs) v
/-- the targets of a comprehension -/
abbrev dC1 := D → En → Option En
def CG (K : PySem.W.Frag) (g : TG) (c : dC1) (vs : List Nat) : Prop := ∀ {ρ : En} {T : Tk} {t : Option Addr} {σ : L2.St} {F H : Hp} {d : D} {v : V} {ρ1 : En} {Q : L2.St → Hp → Prop}, Wd K ρ T t σ F H → Rep K F d v → c d ρ = some ρ1 → (∀ σ1, Wd K ρ1 T t σ1 F H → wipe σ1 vs = wipe σ vs → Q σ1 H) → g v σ H Q
def cN (i : Nat) : dC1 := fun d ρ => some (ρ.set i (some (.val d)))
theorem cg_name {K : PySem.W.Frag} {i : Nat} {vs : List Nat} (h : i ∈ vs := by decide) : CG K (gName i) (cN i) vs := fun w r e q => by
  cases e
  exact q _ (w.put r) (wipe_set h)
def setAll : List Nat → List D → En → Option En
  | [], [], ρ => some ρ
  | i :: is, d :: ds, ρ => setAll is ds (ρ.set i (some (.val d)))
  | _, _, _ => none
def cT (is : List Nat) : dC1 := fun d ρ => match d with | .tup ds => setAll is ds ρ | _ => none
def lcD (ρ : En) (c : dC1) (tt : dT) (el : dE) (k : List D → Tk → Prop) : List D → List D → Tk → Prop
  | [], acc, T => k acc T
  | d :: r, acc, T => match c d ρ with
    | some ρ1 => tt ρ1 T fun b T1 => if b = true then el ρ1 T1 fun y T2 => lcD ρ c tt el k r (acc ++ [y]) T2 else lcD ρ c tt el k r acc T1
    | none => False
def dLc (vs : List Nat) (fi : dI) (c : dC1) (tt : dT) (el : dE) : dE := fun ρ T k => fi ρ T fun xs T1 => lcD (wipeD ρ vs) c tt el (fun acc T2 => k (.lst acc) T2) xs [] T1
def dYes : dT := fun _ T k => k true T
theorem pts_imp {ifs : List Expr} {t u : TT} (h : PTs X ifs t) (i : ∀ σ H Q, u σ H Q → t σ H Q) : PTs X ifs u := ⟨fun pins s σ H Q I q => h.run pins s σ H Q I (i _ _ _ q)⟩
theorem ts_nil : PTs X [] (tDT X.K dYes) := pts_imp pts_nil fun σ H Q ⟨ρ, T, t, F, k, w, h, f⟩ => f _ _ _ _ w.wt (Grow.refl _ _ _) h
theorem ts_one {c : Expr} {tc : dT} (h : PTd X c tc) : PTs X [c] (tDT X.K tc) := pts_one h
theorem lc_ok {K : PySem.W.Frag} {fi : dI} {g : TG} {c : dC1} {tt : dT} {el : dE} {vs : List Nat} (cg : CG K g c vs) {σ : L2.St} {H : Hp} {Q : VK} (h : tD K (dLc vs fi c tt el) σ H Q) : tLc (tDI K fi) g (tDT K tt) (tD K el) vs σ H Q := by
  obtain ⟨ρ, T, t, F, k, w, h, f⟩ := h
  refine ⟨ρ, T, t, F, _, w, h, fun J H1 F1 xs T1 w1 g1 src hl h1 => ?_⟩
  intro L hL
  have wd1 := w.grow g1 w1
  refine ⟨fun i m H' => m = xs.length - i ∧ i ≤ xs.length ∧ ∃ acc av T' F', Wt K T' t F' H' ∧ Grow t F1 H1 F' H' ∧ F' L = none ∧ H' L = some (.lst av) ∧ RepL K F' acc av ∧ acc.length ≤ i ∧ lcD (wipeD ρ vs) c tt el (fun acc T2 => k (.lst acc) T2) (xs.drop i) acc T', ?_, ?_⟩
  · refine ⟨xs.length, by simp, Nat.zero_le _, [], [], T1, F1, wt_own w1 hL, grow_own w1.sub hL, w1.sub.free hL, upd_same, .nil, Nat.le_refl _, ?_⟩
    exact h1
  rintro i m H' ⟨rfl, hi, acc, av, T', F', wt', g', fL, hLv, ra, hal, hh⟩
  have tL : t ≠ some L := fun z => by
    obtain ⟨_, us, hu, _⟩ := w1.tank L z
    rw [hL] at hu
    cases hu
  by_cases lt : i < xs.length
  · refine .inr ⟨src.go i F' H' g'.sub wt'.sub lt, fun H2 => ∃ acc av T' F', Wt K T' t F' H2 ∧ Grow t F1 H1 F' H2 ∧ F' L = none ∧ H2 L = some (.lst av) ∧ RepL K F' acc av ∧ acc.length ≤ i + 1 ∧ lcD (wipeD ρ vs) c tt el (fun acc T2 => k (.lst acc) T2) (xs.drop (i + 1)) acc T', fun H2 q => ⟨xs.length - (i + 1), by omega, rfl, lt, q⟩, fun x H2 y => ?_⟩
    obtain ⟨F2, d, hd, rd, g2, w2⟩ := src.yl i T' F' H' x H2 g'.sub wt' lt y
    have hx : xs.drop i = d :: xs.drop (i + 1) := by rw [List.drop_eq_getElem_cons lt, (List.getElem?_eq_some_iff.mp hd).2]
    rw [hx] at hh
    unfold lcD at hh
    split at hh
    · rename_i ρ1 e1
      have wd2 : Wd K (wipeD ρ vs) T' t (wipe σ vs) F2 H2 := wd_wipe (wd1.grow (g'.trans g2) w2) vs
      refine cg wd2 rd e1 fun σ1 ws1 ew => ⟨by rw [ew, wipe_idem], ?_⟩
      refine ⟨ρ1, T', t, F2, _, ws1, hh, fun b H3 F3 T3 w3 g3 h3 => ?_⟩
      have gg := (g'.trans g2).trans g3
      have hL2 := g2.keep _ _ hLv tL
      have hL3 := g3.keep _ _ hL2 tL
      have fL2 := g2.new _ _ hLv fL
      have fL3 := g3.new _ _ hL2 fL2
      have ra3 := (ra.mono g2.sub).mono g3.sub
      cases b with
      | false => exact ⟨acc, av, T3, F3, w3, gg, fL3, hL3, ra3, by omega, h3⟩
      | true =>
        rw [if_pos rfl] at h3
        refine iteT ⟨ρ1, T3, t, F3, _, ws1.grow g3 w3, h3, fun u H4 F4 z T4 w4 g4 r4 h4 => ?_⟩
        have hL4 := g4.keep _ _ hL3 tL
        have fL4 := g4.new _ _ hL3 fL3
        have ra4 := ra3.mono g4.sub
        refine ⟨av, hL4, by rw [← ra4.len, sizeLine_eq]; omega, acc ++ [z], av ++ [u], T4, F4, ?_, ?_, fL4, upd_same, ra4.app (.cons r4 .nil), by simp; omega, h4⟩
        · refine ⟨fun b o q => ?_, fun a ea => ?_⟩
          · have ne : b ≠ L := fun z => by rw [z, fL4] at q; cases q
            rw [upd_ne ne]
            exact w4.sub b o q
          · obtain ⟨n, us, hu, ru⟩ := w4.tank a ea
            have ne : a ≠ L := fun z => tL (by rw [ea, z])
            exact ⟨n, us, by rw [upd_ne ne]; exact hu, ru⟩
        · have gg4 := gg.trans g4
          refine ⟨gg4.sub, fun a o q n => ?_, gg4.new, fun a o q => ?_⟩
          · rw [upd_ne (ne_of_none q hL)]
            exact gg4.keep a o q n
          · rw [upd_ne (ne_of_none q hL)]
            exact gg4.there a o q
    · exact hh.elim
  · have e : i = xs.length := by omega
    subst e
    rw [List.drop_length] at hh
    refine .inl ⟨src.st F' H' g'.sub wt'.sub, ?_⟩
    have sm : Same F' (upd F' L (.lst av)) := same_upd fL
    refine f (.ref L) H' (upd F' L (.lst av)) (.lst acc) T' ⟨fun b o q => ?_, fun a ea => ?_⟩ (g1.trans ⟨g'.sub.trans sm, g'.keep, fun a o q n => ?_, g'.there⟩) (.lst upd_same (ra.mono sm)) hh
    · by_cases hb : b = L
      · subst hb; rw [upd_same] at q; cases q; exact hLv
      · rw [upd_ne hb] at q; exact wt'.sub b o q
    · obtain ⟨n, us, hu, ru⟩ := wt'.tank a ea
      have ne : a ≠ L := fun z => tL (by rw [ea, z])
      exact ⟨by rw [upd_ne ne]; exact n, us, hu, ru.mono sm⟩
    · rw [upd_ne (ne_of_none q hL)]
      exact g'.new a o q n
theorem d_lc {elt iter : Expr} {ifs : List Expr} {scope : Scope} {fi : dI} {g : TG} {c : dC1} {tt : dT} {el : dE} (own : List (Str × Nat)) (hc : X.calm = true) (hN : X.N.Nodup) (hi : PId X tg iter fi) (cg : CG X.K g c (own.map (·.2)))
    (hg : ∀ (s : Shared) (H : Hp) (C : Addr) (cl : List (Str × Addr)) (fp : List Addr), PG (X.blk s H scope (compEnvC scope cl C X.env) fp) tg g)
    (ht : ∀ (s : Shared) (H : Hp) (C : Addr) (cl : List (Str × Addr)) (fp : List Addr), PTs (X.blk s H scope (compEnvC scope cl C X.env) fp) ifs (tDT X.K tt))
    (he : ∀ (s : Shared) (H : Hp) (C : Addr) (cl : List (Str × Addr)) (fp : List Addr), PEd (X.blk s H scope (compEnvC scope cl C X.env) fp) elt el)
    (ok : BlkOk X.N X.env.scope scope own := by exact blkOk_by (by decide +kernel)) (hs : ∀ x, foldedSetIterable iter X.env x = pure x := by intro _; rfl) :
    PEd X (.ListComp elt [⟨tg, iter, ifs, 0⟩] scope pos) (dLc (own.map (·.2)) fi c tt el) :=
  pe_imp (pe_lc (te := tD X.K el) hc hN hi ok hg ht he hs) fun _ _ _ h => lc_ok cg h
/-- y = [..] on one line -/
theorem s_setLc (i : Nat) {y : Str} {py spos : Pos} {elt iter : Expr} {ifs : List Expr} {scope : Scope} {fi : dI} {g : TG} {c : dC1} {tt : dT} {el : dE} (own : List (Str × Nat)) (hc : X.calm = true) (hN : X.N.Nodup) (hi : PId X tg iter fi) (cg : CG X.K g c (own.map (·.2)))
    (hg : ∀ (s : Shared) (H : Hp) (C : Addr) (cl : List (Str × Addr)) (fp : List Addr), PG (X.blk s H scope (compEnvC scope cl C X.env) fp) tg g)
    (ht : ∀ (s : Shared) (H : Hp) (C : Addr) (cl : List (Str × Addr)) (fp : List Addr), PTs (X.blk s H scope (compEnvC scope cl C X.env) fp) ifs (tDT X.K tt))
    (he : ∀ (s : Shared) (H : Hp) (C : Addr) (cl : List (Str × Addr)) (fp : List Addr), PEd (X.blk s H scope (compEnvC scope cl C X.env) fp) elt el)
    (hsw : swapsWith (.ListComp elt [⟨tg, iter, ifs, 0⟩] scope pos) (some (.Name y py)) spos.line X.env = pure true)
    (ok : BlkOk X.N X.env.scope scope own := by exact blkOk_by (by decide +kernel)) (hy : X.N[i]? = some y := by rfl) (hyl : X.env.scope.names.lookup y = some .local := by rfl) (hs : ∀ x, foldedSetIterable iter X.env x = pure x := by intro _; rfl) :
    PSd X (.Assign [.Name y py] (.ListComp elt [⟨tg, iter, ifs, 0⟩] scope pos) spos) (sAsg (dLc (own.map (·.2)) fi c tt el) (gN i)) := by
  refine ps_imp (ps_setLc (te := tD X.K el) hc hN hy hyl hsw hi ok hg ht he hs) fun E σ H h => ?_
  obtain ⟨ρ, T, t, F0, H0, F, k, w, h, fe⟩ := h
  exact lc_ok cg ⟨ρ, T, t, F, _, w.w, h, fun v H1 F1 d T1 w1 g1 r1 h1 => fe.nx _ _ _ _ _ ((w.grow g1 w1).put r1) g1.sub h1⟩
end
end L2.G

namespace L2.G
open PySem PySem.Spec PyProof.Rows

/-! the list that is changed in its place -/
section
variable {X : Cx} {e : Expr} {es : List Expr} {fe : dE} {fr : dA} {p pos : Pos} {f g : dS}
def isTank (ρ : En) (i : Nat) : Prop := match ρ[i]? with | some (some .tank) => True | _ => False
def dTix (i : Nat) (fe : dE) : dE := fun ρ T k => isTank ρ i ∧ fe ρ T fun d T1 => match d with | .int j => (match atI T1 j with | some x => k x T1 | none => False) | _ => False
theorem tank_slot {K : PySem.W.Frag} {ρ : En} {T : Tk} {t : Option Addr} {σ : L2.St} {F H : Hp} (w : Wd K ρ T t σ F H) {i : Nat} (h : isTank ρ i) : ∃ a, t = some a ∧ σ[i]? = some (some (.ref a)) := by
  unfold isTank at h
  split at h
  · rename_i e
    obtain ⟨v, h1, a, h2, rfl⟩ := w.slot i _ e
    exact ⟨a, h2, h1⟩
  · exact h.elim
theorem d_tix (i : Nat) {x : Str} {p1 : Pos} (he : PEd X e fe) (hs : PlainIx e := by exact fun _ _ => rfl) (hN : X.N[i]? = some x := by rfl) (hv : Vis X.env.scope x := by first | exact Or.inl rfl | exact Or.inr (Or.inl rfl) | exact Or.inr (Or.inr rfl))
    (hd : (x == ("__debug__" : Str)) = false := by decide) (hc : (x == ("__classdict__" : Str)) = false := by decide) : PEd X (.Subscript (.Name x p1) e pos) (dTix i fe) := by
  refine pe_imp (pe_ix ix_list (pe_var hN hv hd hc) he hs) fun σ H Q h => ?_
  obtain ⟨ρ, T, t, F, k, w, ⟨ht, h⟩, f⟩ := h
  obtain ⟨a, rfl, hσ⟩ := tank_slot w ht
  refine ⟨_, hσ, ρ, T, some a, F, _, w, h, fun v H1 F1 d T1 w1 g1 r1 h1 => ?_⟩
  split at h1
  · split at h1
    · rename_i e1
      cases r1
      obtain ⟨_, vs, hH, r⟩ := w1.tank a rfl
      obtain ⟨u, e2, ru⟩ := atI_rep r e1
      exact ⟨a, vs, _, u, rfl, rfl, .of hH, e2, (f.then g1).val w1 ru h1⟩
    · exact h1.elim
  · exact h1.elim
theorem Ws.tk {K : PySem.W.Frag} {ρ : En} {T T' : Tk} {σ : L2.St} {F0 H0 F H : Hp} {a : Addr} {ws : List V} (w : Ws K ρ T (some a) σ F0 H0 F H) (r : RepL K F T' ws) : Ws K ρ T' (some a) σ F0 H0 F (upd H a (.lst ws)) := by
  obtain ⟨hF, _⟩ := w.w.wt.tank a rfl
  refine ⟨⟨⟨fun b u q => ?_, fun b eb => ?_⟩, w.w.len, fun j s ej => ?_, w.w.apart⟩, ⟨w.g.sub, fun b o h0 n0 => ?_, w.g.new, fun b o h0 => ?_⟩, w.fr⟩
  · have ne : b ≠ a := fun z => by rw [z, hF] at q; cases q
    rw [upd_ne ne]
    exact w.w.wt.sub b u q
  · cases eb
    exact ⟨hF, ws, upd_same, r⟩
  · obtain ⟨u, h1, h2⟩ := w.w.slot j s ej
    refine ⟨u, h1, ?_⟩
    cases s with
    | val d => exact h2
    | tank => exact h2
    | exc _ _ => exact ⟨h2.1, fun dd fl x q => let ⟨n, u, f1, r1⟩ := h2.2 dd fl x q; ⟨n, u, by rw [upd_ne (fun z => n (by rw [z]))]; exact f1, r1⟩⟩
    | own zs =>
      obtain ⟨m, us, rfl, f1, f2, f3, f4⟩ := h2
      have nm : m ≠ a := fun z => f4 (by rw [z])
      exact ⟨m, us, rfl, f1, by rw [upd_ne nm]; exact f2, f3, f4⟩
  · have ne : b ≠ a := fun z => n0 (by rw [z])
    rw [upd_ne ne]
    exact w.g.keep b o h0 n0
  · by_cases hb : b = a
    · subst hb; exact ⟨_, upd_same⟩
    · rw [upd_ne hb]; exact w.g.there b o h0
def gTs (i : Nat) (fe : dE) : dG := fun d ρ T k => isTank ρ i ∧ fe ρ T fun j T1 => match j with | .int j => (match ixN T1.length j with | some m => k ρ (T1.set m d) | none => False) | _ => False
theorem g_tset (i : Nat) {x : Str} {p1 : Pos} (he : PEd X e fe) (hN : X.N[i]? = some x := by rfl) (hv : Vis X.env.scope x := by first | exact Or.inl rfl | exact Or.inr (Or.inl rfl) | exact Or.inr (Or.inr rfl))
    (hd : (x == ("__debug__" : Str)) = false := by decide) (hc : (x == ("__classdict__" : Str)) = false := by decide) (ha : ∀ v, assign (.Subscript (.Name x p1) e pos) X.env v = (do
      let ov ← holding [v] (eval (.Name x p1) X.env); let iv ← holding [v, ov] (eval e X.env); standAt pos; holding [v, ov, iv] (setItem ov iv v); release [v, ov, iv] []) := by intro _; rfl) : PGd X (.Subscript (.Name x p1) e pos) (gTs i fe) := by
  refine pg_imp (pg_sub (pe_var hN hv hd hc) he set_list ha) fun v σ H Q h => ?_
  obtain ⟨ρ, T, t, F0, H0, F, d, k, w, r, ⟨ht, h⟩, f⟩ := h
  obtain ⟨a, rfl, hσ⟩ := tank_slot w.w ht
  refine ⟨_, hσ, ρ, T, some a, F, _, w.w, h, fun u H1 F1 j T1 w1 g1 r1 h1 => ?_⟩
  split at h1
  · split at h1
    · rename_i e1
      cases r1
      obtain ⟨_, vs, hH, rt⟩ := w1.tank a rfl
      rw [rt.len] at e1
      exact ⟨a, vs, _, _, rfl, rfl, hH, e1, f _ _ _ _ _ ((w.grow g1 w1).tk (rt.set (r.mono g1.sub) _)) g1.sub h1⟩
    · exact h1.elim
  · exact h1.elim

/-! a def that ends by return [..]: the list is new -/
def FinO (K : PySem.W.Frag) (t : Option Addr) (F H : Hp) (k : KD) (n : VK) : Prop := ∀ l lv H' F' xs T', Wt K T' t F' H' → Grow t F H F' H' → H l = none → F' l = none → H' l = some (.lst lv) → RepL K F' xs lv → k (.lst xs) T' → n (.ref l) H'
def tDSo (K : PySem.W.Frag) (f : En → Tk → KD → Prop) : TS := fun E σ H => ∃ ρ T t F0 H0 F k, Ws K ρ T t σ F0 H0 F H ∧ f ρ T k ∧ FinO K t F0 H0 k E.rt
abbrev PSo (X : Cx) (st : List Stmt) (f : En → Tk → KD → Prop) : Prop := PSs X st (tDSo X.K f)
def no0 : dEnds := { nx := fun _ _ => False, rt := fun _ _ => False, bk := fun _ _ => False, ct := fun _ _ => False }
theorem so_cons {st : Stmt} {rest : List Stmt} {f : dS} {g : En → Tk → KD → Prop} (h1 : PSd X st f) (h2 : PSo X rest g) : PSo X (st :: rest) (fun ρ T k => f { no0 with nx := fun ρ1 T1 => g ρ1 T1 k } ρ T) := by
  refine pss_imp (pss_cons h1 h2) fun E σ H h => ?_
  obtain ⟨ρ, T, t, F0, H0, F, k, w, h, fe⟩ := h
  exact ⟨ρ, T, t, F0, H0, F, _, w, h, ⟨fun ρ' T' σ' F' H' w' _ h' => ⟨ρ', T', t, F0, H0, F', k, w', h', fe⟩, fun _ _ _ _ _ _ _ _ q => q.elim, fun _ _ _ _ _ _ _ q => q.elim, fun _ _ _ _ _ _ _ q => q.elim⟩⟩
theorem so_ret {lp : Pos} (ha : PAd X es fr) : PSo X [.Return (some (.List es lp)) pos] (fun ρ T k => fr ρ T fun as T1 => match vals? as with | some ds => ds.length ≤ 1000000 ∧ k (.lst ds) T1 | none => False) := by
  refine pss_imp (pss_one (ps_ret (pe_lst ha))) fun E σ H h => ?_
  obtain ⟨ρ, T, t, F0, H0, F, k, w, h, fe⟩ := h
  refine ⟨ρ, T, t, F, _, w.w, h, fun vs H1 F1 as T1 w1 g1 r1 h1 => ?_⟩
  split at h1
  · rename_i ds e
    have r := r1.vals e
    refine ⟨by rw [← r.len]; exact small_line h1.1, fun l hl => ?_⟩
    have g2 := (w.g.trans g1).trans (grow_own (o := .lst vs) w1.sub hl)
    refine fe l vs _ F1 ds T1 (wt_own w1 hl) g2 ?_ (w1.sub.free hl) upd_same r h1.2
    cases q : H0 l with
    | none => rfl
    | some o =>
      obtain ⟨o', h'⟩ := (w.g.trans g1).there l o q
      rw [hl] at h'
      cases h'
  · exact h1.elim
def spO (K : PySem.W.Frag) (n : Nat) (sem : Sem) : Sp := fun vs H Q _ => vs.length = n ∧ ∃ F t T as k, ArgL K t F as vs ∧ Wt K T t F H ∧ sem as T k ∧ FinO K t F H k Q
def OkO (P : Program) (w : World) (K : PySem.W.Frag) (mg : Str → Option Value) (base : Heap) (n : Nat) (x : Str) (ps : List Str) (sem : Sem) : Prop :=
  ∃ f fd, mg x = some (.ref f) ∧ PySem.W.keepIn K (.ref f) = true ∧ Binds K fd ps [] ∧ GFn P w K mg base CX0 n f fd ps (spO K ps.length sem)
end
def semO (N : List Str) (b : En → Tk → KD → Prop) : Sem := fun as T k => b (start' N as) T k
theorem ok_defO {P : Program} {w : World} {K : PySem.W.Frag} {mg : Str → Option Value} {base : Heap} {n : Nat} {x : Str} {st : Stmt} {N ps : List Str} {b : En → Tk → KD → Prop} (h : Df K mg x st) (S : FnScope N ps (defScope st))
    (hb1 : ∀ (kV doc pm : Value) (an : Option Addr) (cdv ct : Value) (us : List Value), us.length = ps.length → bindArgs (PySem.W.fnOf x x (defArgs st) (defBody st) (defScope st) .none kV doc pm an cdv ct) ⟨us, []⟩ = pure (ps.zip us))
    (body : ∀ (f : Addr) (cdv : Value) (A : Around) (fs : List Env) (s : Shared) (H : Hp) (E : XK), Room n (A.deeper (envOfC x (defScope st) s.heap.objs.size f cdv)) → A.guards = some [] → PSo (CxD P w K mg base N x st f cdv A fs s H E) (defBody st) b) :
    OkO P w K mg base (n + 1) x ps (semO N b) := by
  obtain ⟨f, fd, Fn, hm⟩ := h
  refine ⟨f, fd, hm, Fn.kp, Fn.binds hb1, ?_⟩
  obtain ⟨oc, od, kV, doc, pm, an, cdv, ct, osl, rfl, lk, hcd⟩ := Fn.ex
  refine gfn_body lk hcd S (fun vs H Q E q => q.1) fun A fs s H vs Q E hr hgd hsp => ?_
  obtain ⟨hl, F, t, T, as, k, ar, wt, h, fin⟩ := hsp
  refine ⟨_, (body f cdv A fs s H E hr hgd).nox, start' N as, T, t, F, H, F, _, ⟨wd_start ar wt, Grow.refl _ _ _, fun i xs l e1 _ => ?_⟩, h, fin⟩
  exact absurd rfl ((argGet (H := H) ar i _ (startGet e1)).2 xs)
theorem OkO.mono {P : Program} {w : World} {K : PySem.W.Frag} {mg : Str → Option Value} {base : Heap} {m n : Nat} {x : Str} {ps : List Str} {sem : Sem} (h : OkO P w K mg base m x ps sem) (l : m ≤ n) : OkO P w K mg base n x ps sem :=
  let ⟨f, fd, h1, h2, h3, h4⟩ := h; ⟨f, fd, h1, h2, h3, h4.mono l⟩
section
variable {X : Cx} {e : Expr} {es : List Expr} {fr : dA} {p pos q pos2 : Pos} {x y : Str} {n m : Nat} {ps qs : List Str} {sem so : Sem}
/-- f(new(..)): the new list is f's own -/
def dCallT (m : Nat) (sem so : Sem) (fr : dA) : dE := fun ρ T k => fr ρ T fun as T1 => as.length = m ∧ so as T1 fun d T2 => match d with | .lst xs => sem [.tank] xs fun r _ => k r T2 | _ => False
theorem d_callT (G : Ok X.prog X.w X.K X.mg X.base n x ps sem) (O : OkO X.prog X.w X.K X.mg X.base m y qs so) (hr : Room n X.A) (hr2 : Room m X.A) (hgd : X.A.guards = some []) (ha : PAd X (e :: es) fr) (h1 : ps.length = 1) (hg : Gl X x := by rfl) (hg2 : Gl X y := by rfl)
    (hd : (x == ("__debug__" : Str)) = false := by decide) (hd2 : (y == ("__debug__" : Str)) = false := by decide) (he : starEach (e :: es) X.env = (false, eval e X.env) :: starEach es X.env := by rfl) (hp : (backTo pos2 (starEach es X.env)).any (·.1) = false := by rfl)
    (he2 : starEach [.Call (.Name y q) (e :: es) [] pos2] X.env = (false, eval (.Call (.Name y q) (e :: es) [] pos2) X.env) :: starEach [] X.env := by rfl) (hp2 : (backTo pos (starEach [] X.env)).any (·.1) = false := by rfl) :
    PEd X (.Call (.Name x p) [.Call (.Name y q) (e :: es) [] pos2] [] pos) (dCallT qs.length sem so fr) := by
  obtain ⟨f, fd, a1, a2, a3, _, a5, _⟩ := G
  obtain ⟨f', fd', b1, b2, b3, b5⟩ := O
  refine pe_imp (g_call (E := E0) a5 hr hgd hg a1 a2 a3 pass0 (pa_cons (g_call (E := E0) b5 hr2 hgd hg2 b1 b2 b3 pass0 ha hd2 he hp) pa_nil he2) hd he2 hp2) fun σ H Q h => ?_
  obtain ⟨ρ, T, t, F, k, w, h, fin⟩ := h
  refine ⟨ρ, T, t, F, _, w, h, fun vs H1 F1 as T1 w1 g1 r1 h1' => ?_⟩
  show spO X.K qs.length so (vs ++ []) H1 _ E0
  rw [List.append_nil]
  refine ⟨by rw [← r1.len]; exact h1'.1, F1, t, T1, as, _, r1, w1, h1'.2, fun l lv H2 F2 xs T2 w2 g2 hl hF2 hH2 rx h2 => ?_⟩
  refine ⟨by rw [h1]; rfl, F2, some l, xs, [.tank], _, .tank rfl .nil, ⟨w2.sub, fun a ea => ?_⟩, h2, fun v H3 F3 d T3 w3 g3 r3 h3 => ?_⟩
  · cases ea
    exact ⟨hF2, lv, hH2, rx⟩
  · have keep : ∀ a o, H1 a = some o → t ≠ some a → H3 a = some o := fun a o q n => g3.keep a o (g2.keep a o q n) (fun z => by cases z; rw [hl] at q; cases q)
    have tk : ∀ a, t = some a → F3 a = none ∧ ∃ vs, H3 a = some (.lst vs) ∧ RepL X.K F3 T2 vs := fun a ea => by
      obtain ⟨n, us, hu, ru⟩ := w2.tank a ea
      obtain ⟨_, us1, hu1, _⟩ := w1.tank a ea
      have ne : some l ≠ some a := fun z => by cases z; rw [hl] at hu1; cases hu1
      exact ⟨g3.new _ _ hu n, us, g3.keep _ _ hu ne, ru.mono g3.sub⟩
    refine fin v H3 F3 d T2 ⟨w3.sub, tk⟩ (g1.trans ⟨g2.sub.trans g3.sub, keep, fun a o q n => ?_, fun a o q => ?_⟩) r3 h3
    · obtain ⟨o', q'⟩ := g2.there a o q
      exact g3.new a o' q' (g2.new a o q n)
    · obtain ⟨o', q'⟩ := g2.there a o q
      exact g3.there a o' q'
end

/-! the end: the law is called -/
theorem g_law {P : Program} {w : World} {K : PySem.W.Frag} {mg mb : Str → Option Value} {CX : CXT} {k : Nat} {fa a : Addr} {fd : FuncData} {x : Str} {sp : Sp} {s1 : Shared} {vs : List Value} {ns : List Int} (KX : K.In s1.heap) (hns : s1.heap.Ns mainGlobals mg)
    (hb : s1.heap.Ns builtinsNs mb) (hbb : ∀ x : Str, x ≠ "__name__" → mb x = bootBuiltins x) (hlim : s1.heap.NoLimit) (hg : s1.gens = #[]) (ha : s1.heap.get? a = some { cls := .type "list", data := .seq vs.toArray }) (hi : IntsAre vs ns) (hl : ns.length ≤ sizeLine)
    (hr : Room k callerA) (G : ∀ base : Heap, K.In base → base.Ns mainGlobals mg → GFn P w K mg base CX k fa fd [x] sp) (hbind : ∀ u : Value, BindsTo s1 fd ⟨[u], []⟩ [(x, u)])
    (hsp : ∀ H : Hp, Only H → SqL K H a (ns.map V.int) → sp [.ref a] H (fun v _ => v = .bl true) fun _ _ _ => False) (hCX : ∀ H e s', CX [] H s1 (fun _ _ _ => False) e s' → False) :
    codeAny (model P w) callerA (.call (.ref fa) ⟨[.ref a], []⟩) (fun r s' => r = .ok (.ret (.bool true)) ∧ OldK s1.heap s'.heap ∧ s'.os = s1.os ∧ AllBare s'.gens) s1 := by
  have rv := vals_ints hi
  have lenV := hi.length
  have core : ∀ H : Hp, Only H → SqL K H a (ns.map V.int) → HOk P w H s1.heap → (∀ b, H b ≠ none → b = a) → (H a ≠ none → K.lookup a = none) →
      codeAny (model P w) callerA (.call (.ref fa) ⟨[.ref a], []⟩) (fun r s' => r = .ok (.ret (.bool true)) ∧ OldK s1.heap s'.heap ∧ s'.os = s1.os ∧ AllBare s'.gens) s1 := by
    intro H hO hS hok hA hK
    have free : ∀ {b : Addr}, b ≠ a → H b = none := fun {b} nb => Classical.byContradiction fun z => nb (hA b z)
    have dicts : ∀ {b : Addr} {o : Obj} {es : Array DictEntry} {ep : Nat}, s1.heap.get? b = some o → o.data = .dict es ep → H b = none := fun {b o es ep} e d => free fun z => by
      subst z
      cases ha.symm.trans e
      exact nomatch (show Data.seq vs.toArray _ = Data.dict es ep from d)
    have ns' : ∀ {b : Addr} {m : Str → Option Value}, s1.heap.Ns b m → (hidT s1.heap H).Ns b m := fun {b m} ⟨o, es, ep, e, d, r⟩ => ⟨o, es, ep, hidT_get e (dicts e d), d, r⟩
    have inB : K.In (hidT s1.heap H) := fun b o e => hidT_get (KX b o e) (by
      by_cases z : H b = none
      · exact z
      · have hb := hA b z
        subst hb
        have q := hK z
        rw [e] at q
        cases q)
    have hM : Mod K mg (hidT s1.heap H) := ⟨inB, ns' hns, ⟨mb, ns' hb, hbb⟩, by obtain ⟨mc, h1, h2⟩ := hlim; exact ⟨mc, ns' h1, h2⟩⟩
    have e0 : Env0 P w K mg (hidT s1.heap H) callerA [] s1 H := ⟨rfl, hM, fun b o e => of_hidT e, Nat.le_of_eq (hidT_size _ _), trivial, fun b z => (by cases z), hok, .of_eq hg⟩
    apply codeAny_mono ((G _ inB (ns' hns)).go callerA [] s1 H ⟨[.ref a], []⟩ [.ref a] [.ref a] _ _ ⟨hr, rfl⟩ e0 (hbind (.ref a)) (.cons rfl .nil) (hsp H hO hS))
    intro r s' h
    match r, h with
    | .error e, h => exact (hCX H e s' h).elim
    | .ok (.ret u), h =>
      obtain ⟨v, H', os, bare, un, hok', r', q⟩ := h
      obtain rfl : v = V.bl true := q
      obtain rfl : u = Value.bool true := r'
      refine ⟨rfl, OldK.of_keep fun b o e => ?_, os, bare⟩
      cases q : H b with
      | none => exact un.keep b o e q (by simp [frs]) (by simp)
      | some u =>
        rcases hO b with z | ⟨ob, xs, z⟩
        · cases q.symm.trans z
        · have k1 := (hok b _ z).1
          have k2 := (hok' b _ (un.frzs b ob _ z)).1
          cases e.symm.trans k1
          exact k2
  cases hk : K.lookup a with
  | some o =>
    cases ha.symm.trans (KX a o hk)
    refine core (fun _ => none) (fun _ => .inl rfl) (.inr ⟨_, vs.toArray, _, hk, rfl, rfl, rfl, ?_, by simpa using rv⟩) (fun _ _ z => nomatch (show (none : Option HO) = some _ from z)) (fun _ z => absurd rfl z) fun z => absurd rfl z
    rw [List.size_toArray, lenV]
    exact hl
  | none =>
    refine core (fun b => if b = a then some (.frz { cls := .type "list", data := .seq vs.toArray } (.lst (ns.map V.int))) else none) (fun b => ?_) ?_ (fun b u z => ?_) (fun b z => ?_) fun _ => hk
    · by_cases nb : b = a
      · right; exact ⟨_, _, if_pos nb⟩
      · left; exact if_neg nb
    · left; right; exact ⟨{ cls := .type "list", data := .seq vs.toArray }, if_pos rfl⟩
    · by_cases nb : b = a
      · cases (if_pos nb).symm.trans z
        subst nb
        exact ⟨ha, by rw [List.length_map]; exact hl, vs, _, rv, ha⟩
      · cases (if_neg nb).symm.trans z
    · by_cases nb : b = a
      · exact nb
      · exact absurd (if_neg nb) z
/-- the script as data -/
def scrD (ns : List Int) : D := .scr (ns.map D.int)
theorem scr_rep {K : PySem.W.Frag} {F : Hp} : ∀ ns : List Int, RepL K F (ns.map D.int) (ns.map V.int)
  | [] => .nil
  | n :: ns => .cons (.int n) (scr_rep ns)
end L2.G

namespace L2.G
open PySem PySem.Spec PyProof.Rows

section
variable {X : Cx} {tg a b c e : Expr} {fa fb fc fe : dE} {fr : dA} {p pos : Pos}
/-! a list or a tuple that is walked -/
def iS (fe : dE) : dI := fun ρ T k => fe ρ T fun d T1 => match d with | .lst xs => xs.length ≤ 1000000 ∧ k xs T1 | .tup xs => xs.length ≤ 1000000 ∧ k xs T1 | _ => False
theorem i_seq (he : PEd X e fe) : PId X tg e (iS fe) := by
  constructor
  rintro pins s σ H R I ⟨ρ, T, t, F, k, w, h, f⟩
  have key := he.run pins s σ H (fun x H1 => (∃ a xs, x = .ref a ∧ SqL X.K H1 a xs ∧ R (Itl X.K a) H1) ∨ ∃ a xs, x = .ref a ∧ SqT X.K H1 a xs ∧ R (Itt X.K a) H1) I ⟨ρ, T, t, F, _, w, h, fun v H1 F1 d T1 w1 g1 r1 h1 => by
    split at h1
    · obtain ⟨a, vs, rfl, hq, hr⟩ := rep_lst r1
      exact .inl ⟨a, vs, rfl, .of (w1.sub _ _ hq), f _ _ _ _ _ w1 g1 (src_list hq hr) h1.1 h1.2⟩
    · obtain ⟨a, vs, rfl, hq, hr⟩ := rep_tup r1
      exact .inr ⟨a, vs, rfl, same_t w1.sub hq, f _ _ _ _ _ w1 g1 (src_tup hq hr) h1.1 h1.2⟩
    · exact h1.elim⟩
  refine thn key fun v s1 ⟨x, H1, I1, r1, q1⟩ => ?_
  have fr : ∀ b ∈ [s1.heap.objs.size], FpOk X pins H1 b := fun b hb => by
    rw [List.mem_singleton.mp hb]
    exact I1.fpOk (Nat.le_refl _) (I1.hok.fresh (Nat.le_refl _))
  rcases q1 with ⟨a, xs, rfl, hq, q⟩ | ⟨a, xs, rfl, hq, q⟩
  · obtain rfl : v = Value.ref a := r1
    obtain ⟨its, _, pl, _⟩ := I1.list hq
    apply wpAny_pyIter_list pl.isList
    exact ⟨s1.heap.objs.size, _, _, _, H1, rfl, I1.kept (t' := s1.toks) fun b o z => Heap.get?_push_of_some _ z, turn_list a _, ⟨_, Heap.get?_push_size _ rfl, rfl, rfl⟩, fr, q⟩
  · obtain rfl : v = Value.ref a := r1
    obtain ⟨its, _, pl, _⟩ := I1.tuple hq
    apply wpAny_pyIter_tuple pl
    exact ⟨s1.heap.objs.size, _, _, _, H1, rfl, I1.kept (t' := s1.toks) fun b o z => Heap.get?_push_of_some _ z, turn_tuple a _, ⟨_, Heap.get?_push_size _ rfl, rfl, rfl⟩, fr, q⟩

/-! +, *, ==, != of any kind -/
def oAdd : Op2 := fun x y k => match x, y with
  | .int i, .int j => k (.int (i + j))
  | .lst xs, .lst ys => xs.length + ys.length ≤ 1000000 ∧ k (.lst (xs ++ ys))
  | .tup xs, .tup ys => xs.length + ys.length ≤ 1000000 ∧ k (.tup (xs ++ ys))
  | .str s, .str u => s.length + u.length ≤ 1000000 ∧ k (.str (s ++ u))
  | _, _ => False
theorem oAdd_ok {K : PySem.W.Frag} : OpS K (fun x y H Q => (rI0 (fun i j => .int (i + j))) x y H Q ∨ ((rCat x y H Q ∨ rCatA K x y H Q) ∨ ∃ i j, x = .str i ∧ y = .str j ∧ i.length + j.length ≤ sizeLine ∧ Q (.str (i ++ j)) H)) oAdd := by
  intro t F H T x y v w k Q wt r1 r2 q f
  unfold oAdd at q
  split at q
  · exact .inl (oI_ok wt r1 r2 q f)
  · exact .inr (oCat_ok wt r1 r2 q f)
  · exact .inr (oCat_ok wt r1 r2 q f)
  · exact .inr (oCat_ok wt r1 r2 q f)
  · exact q.elim
theorem d_plus (ha : PEd X a fa) (hb : PEd X b fb) : PEd X (.BinOp a .Add b pos) (dOp oAdd fa fb) := d_op (op_add.or ((op_cat.or op_catA).or op_add_str)) oAdd_ok ha hb
def repD (xs : List D) (n : Nat) : List D := (List.replicate n xs).flatten
theorem rep_flat {K : PySem.W.Frag} {F : Hp} {ds : List D} {vs : List V} (r : RepL K F ds vs) : ∀ n : Nat, RepL K F (repD ds n) (List.replicate n vs).flatten
  | 0 => .nil
  | n + 1 => by
    show RepL K F ((List.replicate (n + 1) ds).flatten) _
    rw [List.replicate_succ, List.flatten_cons, List.replicate_succ, List.flatten_cons]
    exact r.app (rep_flat r n)
def oMul : Op2 := fun x y k => match x, y with
  | .int i, .int j => MulOk i j ∧ k (.int (i * j))
  | .lst xs, .int n => (-(2 ^ 63) ≤ n ∧ n < 2 ^ 63 ∧ xs.length * n.toNat ≤ 1000000) ∧ k (.lst (repD xs n.toNat))
  | _, _ => False
theorem oMul_ok {K : PySem.W.Frag} : OpS K (fun x y H Q => (rI MulOk (fun i j => .int (i * j))) x y H Q ∨ rRep x y H Q) oMul := by
  intro t F H T x y v w k Q wt r1 r2 q f
  unfold oMul at q
  split at q
  · exact .inl (oIC_ok wt r1 r2 q f)
  · obtain ⟨a, vs, rfl, h1, r1⟩ := rep_lst r1
    cases r2
    exact .inr ⟨a, _, vs, rfl, rfl, wt.sub _ _ h1, q.1.1, q.1.2.1, by rw [← r1.len]; exact small_line q.1.2.2, fun p hp => f.lst wt (rep_flat r1 _) hp q.2⟩
  · exact q.elim
theorem d_times (ha : PEd X a fa) (hb : PEd X b fb) : PEd X (.BinOp a .Mult b pos) (dOp oMul fa fb) := d_op (op_mulQ.or op_rep) oMul_ok ha hb
def oEqU : Op2 := fun x y k => match x, y with
  | .int i, .int j => k (.bl (decide (i = j)))
  | .str i, .str j => k (.bl (decide (i = j)))
  | .bl i, .bl j => k (.bl (decide (i = j)))
  | x, y => x.eqOk ∧ y.eqOk ∧ k (.bl (eqD x y))
def oNeU : Op2 := fun x y k => match x, y with
  | .int i, .int j => k (.bl (!decide (i = j)))
  | .str i, .str j => k (.bl (!decide (i = j)))
  | .bl i, .bl j => k (.bl (!decide (i = j)))
  | x, y => x.eqOk ∧ y.eqOk ∧ k (.bl (!eqD x y))
theorem oEqU_ok {K : PySem.W.Frag} : OpS K (fun x y H Q => rEq x y H Q ∨ rEqD K x y H Q) oEqU := by
  intro t F H T x y v w k Q wt r1 r2 q f
  unfold oEqU at q
  split at q
  · exact .inl (oEqI_ok wt r1 r2 q f)
  · exact .inl (oEqI_ok wt r1 r2 q f)
  · exact .inl (oEqI_ok wt r1 r2 q f)
  · exact .inr (oEq_ok wt r1 r2 q f)
theorem oNeU_ok {K : PySem.W.Frag} : OpS K (fun x y H Q => rNe x y H Q ∨ rNeD K x y H Q) oNeU := by
  intro t F H T x y v w k Q wt r1 r2 q f
  unfold oNeU at q
  split at q
  · exact .inl (oNeI_ok wt r1 r2 q f)
  · exact .inl (oNeI_ok wt r1 r2 q f)
  · exact .inl (oNeI_ok wt r1 r2 q f)
  · exact .inr (oNe_ok wt r1 r2 q f)
theorem room66 {n : Nat} {A : Around} (r : Room n A) : A.units + 66 < cLine := by have := r.un; omega
variable {n : Nat}
theorem t_isN {j pos'} (ha : PEd X a fa) : PTd X (.Compare a [.Is] [.Constant .none j pos'] pos) (dTst (dIsN fa)) := by
  refine pt_imp (pt_cmp (pc_isN ha)) fun σ H Q h => ?_
  obtain ⟨ρ, T, t, F, k, w, h, f⟩ := h
  refine ⟨ρ, T, t, F, _, w, h, fun v H1 F1 x T1 w1 g1 r1 h1 => ⟨_, rfl, ?_⟩⟩
  rw [rep_isNon r1]
  exact f _ _ _ _ w1 g1 h1
theorem t_notN {j pos'} (ha : PEd X a fa) : PTd X (.Compare a [.IsNot] [.Constant .none j pos'] pos) (dTst (dNotN fa)) := by
  refine pt_imp (pt_cmp (pc_notN ha)) fun σ H Q h => ?_
  obtain ⟨ρ, T, t, F, k, w, h, f⟩ := h
  refine ⟨ρ, T, t, F, _, w, h, fun v H1 F1 x T1 w1 g1 r1 h1 => ⟨_, rfl, ?_⟩⟩
  rw [rep_isNon r1]
  exact f _ _ _ _ w1 g1 h1
/-- a constant of the module -/
def GC (K : PySem.W.Frag) (mg : Str → Option Value) (x : Str) (d : D) : Prop := ∃ v u, mg x = some u ∧ RelV v u ∧ ∀ F, Rep K F d v
theorem d_gc {x : Str} {d : D} (h : GC X.K X.mg x d) (hg : Gl X x := by rfl) (hd : (x == ("__debug__" : Str)) = false := by decide) : PEd X (.Name x pos) (dC d) := by
  obtain ⟨v, u, h1, h2, h3⟩ := h
  exact d_glob hg h1 h2 h3 hd
mutual
inductive GRep (K : PySem.W.Frag) : D → Value → Prop
  | int (i : Int) (t : Tok) : GRep K (.int i) (.int i t)
  | str (i : Str) (t : Tok) : GRep K (.str i) (.str i t)
  | bl (b : Bool) : GRep K (.bl b) (.bool b)
  | non : GRep K .non .none
  | tup {a : Addr} {dd : Option Addr} {its : Array Value} {n : Nat} {sl : Array (Option Value)} {ds : List D} : K.lookup a = some ⟨.type "tuple", dd, .seq its n, sl⟩ → GRepL K ds its.toList → its.size ≤ 1000000 → GRep K (.tup ds) (.ref a)
inductive GRepL (K : PySem.W.Frag) : List D → List Value → Prop
  | nil : GRepL K [] []
  | cons {d : D} {u : Value} {ds : List D} {us : List Value} : GRep K d u → GRepL K ds us → GRepL K (d :: ds) (u :: us)
end
mutual
theorem GRep.rep {K : PySem.W.Frag} : ∀ {d : D} {u : Value}, GRep K d u → ∃ v, RelV v u ∧ ∀ F, Rep K F d v
  | _, _, .int i t => ⟨.int i, ⟨t, rfl⟩, fun _ => .int i⟩
  | _, _, .str i t => ⟨.str i, ⟨t, rfl⟩, fun _ => .str i⟩
  | _, _, .bl b => ⟨.bl b, rfl, fun _ => .bl b⟩
  | _, _, .non => ⟨.non, rfl, fun _ => .non⟩
  | _, _, .tup (a := a) h q z => by
    obtain ⟨vs, h1, h2⟩ := GRepL.rep q
    exact ⟨.ref a, rfl, fun F => .tup (.inr ⟨_, _, _, h, rfl, rfl, small_line z, h1⟩) (h2 F)⟩
theorem GRepL.rep {K : PySem.W.Frag} : ∀ {ds : List D} {us : List Value}, GRepL K ds us → ∃ vs, Vals vs us ∧ ∀ F, RepL K F ds vs
  | _, _, .nil => ⟨[], .nil, fun _ => .nil⟩
  | _, _, .cons h q => by
    obtain ⟨v, h1, h2⟩ := GRep.rep h
    obtain ⟨vs, h3, h4⟩ := GRepL.rep q
    exact ⟨v :: vs, .cons h1 h3, fun F => .cons (h2 F) (h4 F)⟩
end
theorem gc_of {K : PySem.W.Frag} {mg : Str → Option Value} {h : Heap} {x : Str} {d : D} {u : Value} (X : K.In h) (G : h.Ns mainGlobals mg) (a : PySem.W.nsIn K mainGlobals x = some (some u)) (r : GRep K d u) : GC K mg x d := by
  obtain ⟨v, h1, h2⟩ := r.rep
  exact ⟨v, u, PySem.W.mg_of X G a, h1, h2⟩
/-- three at once -/
def sPar3 (i j l : Nat) (fr : dA) : dS := fun k ρ T => fr ρ T fun as T1 => match as with | [.val d, .val e, .val f] => k.nx (((ρ.set i (some (.val d))).set j (some (.val e))).set l (some (.val f))) T1 | _ => False
theorem s_par3 (i j l : Nat) {x y z : Str} {px py pz pt : Pos} {kt k2 pt2} (hc : X.calm = true) (hN : X.N.Nodup) (ha : PAd X [a, b, c] fr) (hw : swappedStores [.Tuple [.Name x px, .Name y py, .Name z pz] kt pt] (.Tuple [a, b, c] k2 pt2) X.env = pure (some [x, y, z]) := by rfl)
    (hi : X.N[i]? = some x := by rfl) (hj : X.N[j]? = some y := by rfl) (hl : X.N[l]? = some z := by rfl) (hij : i ≠ j := by decide) (hil : i ≠ l := by decide) (hjl : j ≠ l := by decide)
    (hx : X.env.scope.names.lookup x = some .local := by rfl) (hy : X.env.scope.names.lookup y = some .local := by rfl) (hz : X.env.scope.names.lookup z = some .local := by rfl)
    (hs : swapsWithSole [.Tuple [.Name x px, .Name y py, .Name z pz] kt pt] (.Tuple [a, b, c] k2 pt2) pos.line X.env = pure false := by rfl) :
    PSd X (.Assign [.Tuple [.Name x px, .Name y py, .Name z pz] kt pt] (.Tuple [a, b, c] k2 pt2) pos) (sPar3 i j l fr) := by
  refine ps_imp (ps_par3 hc hN hi hj hl hij hil hjl hx hy hz ha hw hs) fun E σ H h => ?_
  obtain ⟨ρ, T, t, F0, H0, F, k, w, h, fe⟩ := h
  refine ⟨ρ, T, t, F, _, w.w, h, fun vs H1 F1 as T1 w1 g1 r1 h1 => ?_⟩
  split at h1
  · cases r1 with
    | val r1 rr =>
      cases rr with
      | val r2 rr =>
        cases rr with
        | val r3 rr =>
          cases rr
          exact ⟨_, _, _, rfl, fe.nx _ _ _ _ _ ((((w.grow g1 w1).put r1).put r2).put r3) g1.sub h1⟩
  · exact h1.elim
end
end L2.G

namespace L2.G
open PySem PySem.Spec PyProof.Rows
theorem ixN_lit (l n : Nat) : ixN l (no_index (OfNat.ofNat n) : Int) = if n < l then some n else none := by
  have e : (no_index (OfNat.ofNat n) : Int) = (n : Int) := rfl
  rw [e]
  unfold ixN
  rw [if_pos (Int.natCast_nonneg n)]
  by_cases h : n < l
  · rw [if_pos h, if_pos (by omega)]; rfl
  · rw [if_neg h, if_neg (by omega)]
theorem atI_lit {α : Type} (xs : List α) (n : Nat) : atI xs (no_index (OfNat.ofNat n) : Int) = xs[n]? := by
  unfold atI
  rw [ixN_lit]
  by_cases h : n < xs.length
  · rw [if_pos h]; rfl
  · rw [if_neg h]; exact (List.getElem?_eq_none (by omega)).symm
theorem atI_nat' {α : Type} (xs : List α) (n : Nat) : atI xs (n : Int) = xs[n]? := atI_lit xs n
theorem atI_m1 {α : Type} (xs : List α) : atI xs (-1) = xs[xs.length - 1]? := by
  unfold atI ixN
  rw [if_neg (by decide)]
  by_cases h : xs = []
  · subst h; rfl
  · have : 0 < xs.length := List.length_pos_iff.mpr h
    rw [if_pos (by omega)]
    show xs[((-1 : Int) + xs.length).toNat]? = _
    congr 1
    omega
/-- sizes -/
def Sz (n : Nat) (i : Int) : Prop := i.natAbs < 2 ^ n
theorem Sz.mono {m n : Nat} {i : Int} (h : Sz m i) (l : m ≤ n) : Sz n i := Nat.lt_of_lt_of_le h (Nat.pow_le_pow_right (by decide) l)
theorem Sz.add {m n : Nat} {i j : Int} (h : Sz m i) (q : Sz n j) : Sz (max m n + 1) (i + j) := by
  have h1 := h.mono (Nat.le_max_left m n)
  have h2 := q.mono (Nat.le_max_right m n)
  unfold Sz at *
  rw [Nat.pow_succ]
  omega
theorem Sz.sub {m n : Nat} {i j : Int} (h : Sz m i) (q : Sz n j) : Sz (max m n + 1) (i - j) := by
  have h1 := h.mono (Nat.le_max_left m n)
  have h2 := q.mono (Nat.le_max_right m n)
  unfold Sz at *
  rw [Nat.pow_succ]
  omega
theorem Sz.neg {m : Nat} {i : Int} (h : Sz m i) : Sz m (-i) := by unfold Sz at *; omega
theorem Sz.mul {m n : Nat} {i j : Int} (h : Sz m i) (q : Sz n j) : Sz (m + n) (i * j) := wide_lt h q
theorem Sz.mulOk {m n : Nat} {i j : Int} (h : Sz m i) (q : Sz n j) (l : m ≤ 400000) (l' : n ≤ 400000) : MulOk i j := .inr ⟨h.mono l, q.mono l'⟩
theorem Sz.divOk {n : Nat} {i j : Int} (q : Sz n j) (l : n ≤ 9000) (h : 0 < j) : DivOk i j := ⟨h, q.mono l⟩
theorem Sz.small {i : Int} (h : i.natAbs < 2 ^ 64) : Sz 64 i := h
theorem Sz.ediv {m : Nat} {i j : Int} (h : Sz m i) : Sz m (i / j) := by
  unfold Sz at *
  exact Nat.lt_of_le_of_lt (Int.natAbs_ediv_le_natAbs i j) h
theorem sIx_lit (n d k : Nat) : HT.sIx n d (some (no_index (OfNat.ofNat k) : Int)) = min k n := HT.sIx_nat n d k
theorem cut_none {xs : List D} : cutD xs none none = xs := by
  unfold cutD
  simp [HT.sIx_none]
theorem cut_to {xs : List D} (k : Nat) : cutD xs none (some (no_index (OfNat.ofNat k) : Int)) = xs.take k := by
  unfold cutD
  rw [sIx_lit, HT.sIx_none, List.drop_zero, Nat.sub_zero]
  by_cases h : k ≤ xs.length
  · rw [Nat.min_eq_left h]
  · rw [Nat.min_eq_right (by omega), List.take_length, List.take_of_length_le (by omega)]
theorem cut_from {xs : List D} (k : Nat) : cutD xs (some (no_index (OfNat.ofNat k) : Int)) none = xs.drop k := by
  unfold cutD
  rw [sIx_lit, HT.sIx_none]
  by_cases h : k ≤ xs.length
  · rw [Nat.min_eq_left h, List.take_of_length_le (by simp)]
  · rw [Nat.min_eq_right (by omega), Nat.sub_self, List.take_zero, List.drop_eq_nil_of_le (by omega)]
theorem cut_fromto {xs : List D} (j k : Nat) : cutD xs (some (no_index (OfNat.ofNat j) : Int)) (some (no_index (OfNat.ofNat k) : Int)) = (xs.take k).drop j := by
  unfold cutD
  rw [sIx_lit, sIx_lit, List.drop_take]
  by_cases h : j ≤ xs.length
  · rw [Nat.min_eq_left h]
    by_cases h2 : k ≤ xs.length
    · rw [Nat.min_eq_left h2]
    · rw [Nat.min_eq_right (by omega), List.take_of_length_le (by simp), List.take_of_length_le (by simp; omega)]
  · rw [Nat.min_eq_right (show xs.length ≤ j by omega), List.drop_eq_nil_of_le (show xs.length ≤ xs.length from Nat.le_refl _), List.drop_eq_nil_of_le (show xs.length ≤ j by omega), List.take_nil, List.take_nil]
end L2.G

namespace L2.G
open PySem PySem.Spec PyProof.Rows
/-! the same operations as functions of data: what must hold, and the value -/
abbrev PD := Option (Prop × D)
def oF (f : D → D → PD) : Op2 := fun x y k => match f x y with | some p => p.1 ∧ k p.2 | none => False
def oG (f : List D → PD) (ds : List D) (k : D → Prop) : Prop := match f ds with | some p => p.1 ∧ k p.2 | none => False
theorem OpS.imp {K : PySem.W.Frag} {r : R2} {o o' : Op2} (h : OpS K r o) (i : ∀ x y k, o' x y k → o x y k) : OpS K r o' := fun w r1 r2 q f => h w r1 r2 (i _ _ _ q) f
theorem BltS.imp {K : PySem.W.Frag} {r : List V → Hp → VK → Prop} {o o' : List D → (D → Prop) → Prop} (h : BltS K r o) (i : ∀ ds k, o' ds k → o ds k) : BltS K r o' := fun w r1 q f => h w r1 (i _ _ q) f
def fAdd : D → D → PD
  | .int i, .int j => some (True, .int (i + j))
  | .lst xs, .lst ys => some (xs.length + ys.length ≤ 1000000, .lst (xs ++ ys))
  | .tup xs, .tup ys => some (xs.length + ys.length ≤ 1000000, .tup (xs ++ ys))
  | .str s, .str u => some (s.length + u.length ≤ 1000000, .str (s ++ u))
  | _, _ => none
def fSub : D → D → PD
  | .int i, .int j => some (True, .int (i - j))
  | .bl b, .bl c => some (True, .int (b2i b - b2i c))
  | _, _ => none
def rSubB (x y : V) (H : Hp) (Q : VK) : Prop := ∃ b c : Bool, x = .bl b ∧ y = .bl c ∧ Q (.int (b2i b - b2i c)) H
theorem op_subB {X : Cx} : OpR X (binaryOp .Sub) rSubB := by
  intro pins s σ H x y v u Q I rx ry h
  obtain ⟨b, c, rfl, rfl, q⟩ := h
  cases rx
  cases ry
  exact PyProof.Rows.sub_bool ⟨.int (b2i b - b2i c), H, I.tok _, ⟨_, rfl⟩, q⟩
def oSubB : Op2 := fun x y k => match x, y with
  | .int i, .int j => k (.int (i - j))
  | .bl b, .bl c => k (.int (b2i b - b2i c))
  | _, _ => False
theorem oSubB_ok {K : PySem.W.Frag} : OpS K (fun x y H Q => (rI0 (fun i j => .int (i - j))) x y H Q ∨ rSubB x y H Q) oSubB := by
  intro t F H T x y v w k Q wt r1 r2 q f
  unfold oSubB at q
  split at q
  · exact .inl (oI_ok wt r1 r2 q f)
  · cases r1
    cases r2
    exact .inr ⟨_, _, rfl, rfl, f.val wt (.int _) q⟩
  · exact q.elim
def fMul : D → D → PD
  | .int i, .int j => some (MulOk i j, .int (i * j))
  | .lst xs, .int n => some (-(2 ^ 63) ≤ n ∧ n < 2 ^ 63 ∧ xs.length * n.toNat ≤ 1000000, .lst (repD xs n.toNat))
  | _, _ => none
def fDiv : D → D → PD | .int i, .int j => some (DivOk i j, .int (i / j)) | _, _ => none
def fMod : D → D → PD | .int i, .int j => some (0 < j, .int (i % j)) | _, _ => none
def fPow : D → D → PD | .int i, .int j => some (CPow i j, .int (i ^ j.toNat)) | _, _ => none
def fShl : D → D → PD | .int i, .int j => some (CPow i j, .int (i * 2 ^ j.toNat)) | _, _ => none
def fLt : D → D → PD | .int i, .int j => some (True, .bl (decide (i < j))) | _, _ => none
def fLe : D → D → PD | .int i, .int j => some (True, .bl (decide (i ≤ j))) | _, _ => none
def fGt : D → D → PD | .int i, .int j => some (True, .bl (decide (j < i))) | _, _ => none
def fGe : D → D → PD | .int i, .int j => some (True, .bl (decide (j ≤ i))) | _, _ => none
def fEq (x y : D) : PD := match x, y with
  | .int i, .int j => some (True, .bl (decide (i = j)))
  | .str i, .str j => some (True, .bl (decide (i = j)))
  | .bl i, .bl j => some (True, .bl (decide (i = j)))
  | x, y => some (x.eqOk ∧ y.eqOk, .bl (eqD x y))
def fNe (x y : D) : PD := match x, y with
  | .int i, .int j => some (True, .bl (!decide (i = j)))
  | .str i, .str j => some (True, .bl (!decide (i = j)))
  | .bl i, .bl j => some (True, .bl (!decide (i = j)))
  | x, y => some (x.eqOk ∧ y.eqOk, .bl (!eqD x y))
theorem fEq_int {i j : Int} : fEq (.int i) (.int j) = some (True, .bl (decide (i = j))) := rfl
theorem fEq_str {i j : Str} : fEq (.str i) (.str j) = some (True, .bl (decide (i = j))) := rfl
theorem fEq_bl {i j : Bool} : fEq (.bl i) (.bl j) = some (True, .bl (decide (i = j))) := rfl
theorem fEq_tup {x y : List D} : fEq (.tup x) (.tup y) = some ((D.tup x).eqOk ∧ (D.tup y).eqOk, .bl (eqD (.tup x) (.tup y))) := rfl
theorem fEq_lst {x y : List D} : fEq (.lst x) (.lst y) = some ((D.lst x).eqOk ∧ (D.lst y).eqOk, .bl (eqD (.lst x) (.lst y))) := rfl
theorem fEq_tn {x : List D} : fEq (.tup x) .non = some ((D.tup x).eqOk ∧ D.non.eqOk, .bl (eqD (.tup x) .non)) := rfl
theorem fEq_nt {x : List D} : fEq .non (.tup x) = some (D.non.eqOk ∧ (D.tup x).eqOk, .bl (eqD .non (.tup x))) := rfl
theorem fEq_nn : fEq .non .non = some (D.non.eqOk ∧ D.non.eqOk, .bl (eqD .non .non)) := rfl
theorem fNe_int {i j : Int} : fNe (.int i) (.int j) = some (True, .bl (!decide (i = j))) := rfl
theorem fNe_str {i j : Str} : fNe (.str i) (.str j) = some (True, .bl (!decide (i = j))) := rfl
theorem fNe_bl {i j : Bool} : fNe (.bl i) (.bl j) = some (True, .bl (!decide (i = j))) := rfl
theorem fNe_tup {x y : List D} : fNe (.tup x) (.tup y) = some ((D.tup x).eqOk ∧ (D.tup y).eqOk, .bl (!eqD (.tup x) (.tup y))) := rfl
theorem fNe_lst {x y : List D} : fNe (.lst x) (.lst y) = some ((D.lst x).eqOk ∧ (D.lst y).eqOk, .bl (!eqD (.lst x) (.lst y))) := rfl
theorem fNe_tn {x : List D} : fNe (.tup x) .non = some ((D.tup x).eqOk ∧ D.non.eqOk, .bl (!eqD (.tup x) .non)) := rfl
theorem fNe_nt {x : List D} : fNe .non (.tup x) = some (D.non.eqOk ∧ (D.tup x).eqOk, .bl (!eqD .non (.tup x))) := rfl
theorem fNe_nn : fNe .non .non = some (D.non.eqOk ∧ D.non.eqOk, .bl (!eqD .non .non)) := rfl
def fIn (x y : D) : PD := match y with | .lst ys => some (x.eqOk ∧ D.eqOk (.lst ys), .bl (ys.any fun z => eqD z x)) | _ => none
def fNotIn (x y : D) : PD := match y with | .lst ys => some (x.eqOk ∧ D.eqOk (.lst ys), .bl (!ys.any fun z => eqD z x)) | _ => none
def D.seq? : D → Option (List D) | .tup xs => some xs | .lst xs => some xs | .scr xs => some xs | _ => none
def fIx (x y : D) : PD := match y with | .int i => (match x.seq? with | some xs => (match atI xs i with | some d => some (True, d) | none => none) | none => none) | _ => none
theorem fAdd_ok {x y : D} {k : D → Prop} (h : oF fAdd x y k) : oAdd x y k := by cases x <;> cases y <;> first | exact h.elim | (obtain ⟨h1, h2⟩ := h; first | exact h2 | exact ⟨h1, h2⟩)
theorem fSub_ok {x y : D} {k : D → Prop} (h : oF fSub x y k) : oSubB x y k := by cases x <;> cases y <;> first | exact h.elim | exact h.2
theorem fMul_ok {x y : D} {k : D → Prop} (h : oF fMul x y k) : oMul x y k := by cases x <;> cases y <;> first | exact h.elim | exact h
theorem fDiv_ok {x y : D} {k : D → Prop} (h : oF fDiv x y k) : oIC DivOk (fun i j => i / j) x y k := by cases x <;> cases y <;> first | exact h.elim | exact h
theorem fMod_ok {x y : D} {k : D → Prop} (h : oF fMod x y k) : oIC (fun _ j => 0 < j) (fun i j => i % j) x y k := by cases x <;> cases y <;> first | exact h.elim | exact h
theorem fPow_ok {x y : D} {k : D → Prop} (h : oF fPow x y k) : oIC CPow (fun i j => i ^ j.toNat) x y k := by cases x <;> cases y <;> first | exact h.elim | exact h
theorem fShl_ok {x y : D} {k : D → Prop} (h : oF fShl x y k) : oIC CPow (fun i j => i * 2 ^ j.toNat) x y k := by cases x <;> cases y <;> first | exact h.elim | exact h
theorem fLt_ok {x y : D} {k : D → Prop} (h : oF fLt x y k) : oB (fun i j => decide (i < j)) x y k := by cases x <;> cases y <;> first | exact h.elim | exact h.2
theorem fLe_ok {x y : D} {k : D → Prop} (h : oF fLe x y k) : oB (fun i j => decide (i ≤ j)) x y k := by cases x <;> cases y <;> first | exact h.elim | exact h.2
theorem fGt_ok {x y : D} {k : D → Prop} (h : oF fGt x y k) : oB (fun i j => decide (j < i)) x y k := by cases x <;> cases y <;> first | exact h.elim | exact h.2
theorem fGe_ok {x y : D} {k : D → Prop} (h : oF fGe x y k) : oB (fun i j => decide (j ≤ i)) x y k := by cases x <;> cases y <;> first | exact h.elim | exact h.2
theorem fEq_ok {x y : D} {k : D → Prop} (h : oF fEq x y k) : oEqU x y k := by cases x <;> cases y <;> first | exact h.2 | exact ⟨h.1.1, h.1.2, h.2⟩
theorem fNe_ok {x y : D} {k : D → Prop} (h : oF fNe x y k) : oNeU x y k := by cases x <;> cases y <;> first | exact h.2 | exact ⟨h.1.1, h.1.2, h.2⟩
theorem fIx_ok {x y : D} {k : D → Prop} (h : oF fIx x y k) : oIx x y k := by
  cases y <;> first | exact h.elim | skip
  rename_i i
  cases x <;> first | exact h.elim | skip
  all_goals
    rename_i xs
    unfold oF fIx D.seq? at h
    unfold oIx
    simp only at h ⊢
    cases e : atI xs i with
    | none => rw [e] at h; exact h.elim
    | some d => rw [e] at h; exact h.2
section
variable {X : Cx} {a b e : Expr} {fa fb fe : dE} {fr : dA} {p pos : Pos} {n : Nat} {es : List Expr} {tg : Expr}
theorem f_add (ha : PEd X a fa) (hb : PEd X b fb) : PEd X (.BinOp a .Add b pos) (dOp (oF fAdd) fa fb) := d_op (op_add.or ((op_cat.or op_catA).or op_add_str)) (oAdd_ok.imp fun _ _ _ => fAdd_ok) ha hb
theorem f_sub (ha : PEd X a fa) (hb : PEd X b fb) : PEd X (.BinOp a .Sub b pos) (dOp (oF fSub) fa fb) := d_op (op_sub.or op_subB) (oSubB_ok.imp fun _ _ _ => fSub_ok) ha hb
theorem f_mul (ha : PEd X a fa) (hb : PEd X b fb) : PEd X (.BinOp a .Mult b pos) (dOp (oF fMul) fa fb) := d_op (op_mulQ.or op_rep) (oMul_ok.imp fun _ _ _ => fMul_ok) ha hb
theorem f_div (ha : PEd X a fa) (hb : PEd X b fb) : PEd X (.BinOp a .FloorDiv b pos) (dOp (oF fDiv) fa fb) := d_op op_divQ (oIC_ok.imp fun _ _ _ => fDiv_ok) ha hb
theorem f_mod (ha : PEd X a fa) (hb : PEd X b fb) : PEd X (.BinOp a .Mod b pos) (dOp (oF fMod) fa fb) := d_op op_mod (oIC_ok.imp fun _ _ _ => fMod_ok) ha hb
theorem f_pow (ha : PEd X a fa) (hb : PEd X b fb) : PEd X (.BinOp a .Pow b pos) (dOp (oF fPow) fa fb) := d_op op_pow (oIC_ok.imp fun _ _ _ => fPow_ok) ha hb
theorem f_shl (ha : PEd X a fa) (hb : PEd X b fb) : PEd X (.BinOp a .LShift b pos) (dOp (oF fShl) fa fb) := d_op op_shl (oIC_ok.imp fun _ _ _ => fShl_ok) ha hb
theorem f_ix (ha : PEd X a fa) (hb : PEd X b fb) (hs : PlainIx b := by exact fun _ _ => rfl) : PEd X (.Subscript a b pos) (dOp (oF fIx) fa fb) :=
  pe_imp (pe_ix (ix_list.or ix_tup) ha hb hs) fun σ H Q h => two (o := fun x y T k => oF fIx x y fun d => k d T) (R := fun x y H Q => rIxL X.K x y H Q ∨ rIxT X.K x y H Q) (fun w r1 r2 q f => oIx_ok w r1 r2 (fIx_ok q) f) h
theorem d_fgt (ha : PEd X a fa) (hb : PEd X b fb) : PEd X (.Compare a [.Gt] [b] pos) (dOp (oF fGt) fa fb) := d_cmp op_gt (oB_ok.imp fun _ _ _ => fGt_ok) ha hb (nomark _)
theorem t_flt (ha : PEd X a fa) (hb : PEd X b fb) : PTd X (.Compare a [.Lt] [b] pos) (dTst (dOp (oF fLt) fa fb)) := d_tcmp op_lt (oB_ok.imp fun _ _ _ => fLt_ok) ha hb (nomark _)
theorem t_fle (ha : PEd X a fa) (hb : PEd X b fb) : PTd X (.Compare a [.LtE] [b] pos) (dTst (dOp (oF fLe) fa fb)) := d_tcmp op_le (oB_ok.imp fun _ _ _ => fLe_ok) ha hb (nomark _)
theorem t_fgt (ha : PEd X a fa) (hb : PEd X b fb) : PTd X (.Compare a [.Gt] [b] pos) (dTst (dOp (oF fGt) fa fb)) := d_tcmp op_gt (oB_ok.imp fun _ _ _ => fGt_ok) ha hb (nomark _)
theorem t_fge (ha : PEd X a fa) (hb : PEd X b fb) : PTd X (.Compare a [.GtE] [b] pos) (dTst (dOp (oF fGe) fa fb)) := d_tcmp op_ge (oB_ok.imp fun _ _ _ => fGe_ok) ha hb (nomark _)
theorem d_feq (hr : Room n X.A) (ha : PEd X a fa) (hb : PEd X b fb) : PEd X (.Compare a [.Eq] [b] pos) (dOp (oF fEq) fa fb) := d_cmp (op_eq.or (op_eqD (by have := room66 hr; omega))) (oEqU_ok.imp fun _ _ _ => fEq_ok) ha hb (nomark _)
theorem t_feq (hr : Room n X.A) (ha : PEd X a fa) (hb : PEd X b fb) : PTd X (.Compare a [.Eq] [b] pos) (dTst (dOp (oF fEq) fa fb)) := d_tcmp (op_eq.or (op_eqD (by have := room66 hr; omega))) (oEqU_ok.imp fun _ _ _ => fEq_ok) ha hb (nomark _)
theorem t_fne (hr : Room n X.A) (ha : PEd X a fa) (hb : PEd X b fb) : PTd X (.Compare a [.NotEq] [b] pos) (dTst (dOp (oF fNe) fa fb)) := d_tcmp (op_ne.or (op_neD (by have := room66 hr; omega))) (oNeU_ok.imp fun _ _ _ => fNe_ok) ha hb (nomark _)
/-! built-ins -/
def fLen : List D → PD | [d] => (match d.seq? with | some xs => some (True, .int xs.length) | none => none) | _ => none
def fI1 (g : Int → Int) : List D → PD | [.int i] => some (True, .int (g i)) | _ => none
def fI2 (g : Int → Int → Int) : List D → PD | [.int i, .int j] => some (True, .int (g i j)) | _ => none
def fInt : List D → PD | [.int i] => some (True, .int i) | [.bl b] => some (True, .int (if b then 1 else 0)) | _ => none
def fSqrt : List D → PD | [.int i] => some (0 ≤ i ∧ i.natAbs < 2 ^ 13000, .int ((Float64.isqrt i.toNat : Nat) : Int)) | _ => none
def fDivmod : List D → PD | [.int i, .int j] => some (DmOk i j, .tup [.int (i / j), .int (i % j)]) | _ => none
def fAll : List D → PD | [.lst xs] => (match bls? xs with | some bs => some (True, .bl (bs.all fun b => b)) | none => none) | _ => none
def fAny : List D → PD | [.lst xs] => (match bls? xs with | some bs => some (True, .bl (bs.any fun b => b)) | none => none) | _ => none
def fSum : List D → PD | [.lst xs] => (match nums? xs with | some bs => some (True, .int bs.sum) | none => none) | _ => none
def fTuple : List D → PD | [.lst xs] => some (True, .tup xs) | [.tup xs] => some (True, .tup xs) | _ => none
def fList : List D → PD | [d] => (match d.seq? with | some xs => some (True, .lst xs) | none => none) | _ => none
def fRepr : List D → PD | [.int i] => some (i.natAbs.log2 < 1920, .str (toString i)) | [.tup xs] => some (D.shOk (.tup xs), .str (D.py (.tup xs)).shown) | [.lst xs] => some (D.shOk (.lst xs), .str (D.py (.lst xs)).shown) | [.bl b] => some (True, .str (if b then "True" else "False")) | [.non] => some (True, .str "None") | _ => none
theorem fLen_ok {ds : List D} {k : D → Prop} (h : oG fLen ds k) : oLen ds k := by
  cases ds with
  | nil => exact h.elim
  | cons d r => cases r with
    | nil => cases d <;> first | exact h.elim | exact h.2
    | cons _ _ => cases d <;> exact h.elim
theorem one_ok {f : List D → PD} {o : List D → (D → Prop) → Prop} (h0 : ∀ k, oG f [] k → o [] k) (h1 : ∀ d k, oG f [d] k → o [d] k) (h2 : ∀ d e r k, oG f (d :: e :: r) k → o (d :: e :: r) k) {ds : List D} {k : D → Prop} (h : oG f ds k) : o ds k := by
  match ds with
  | [] => exact h0 k h
  | [d] => exact h1 d k h
  | d :: e :: r => exact h2 d e r k h
theorem fI1_ok {g : Int → Int} {ds : List D} {k : D → Prop} (h : oG (fI1 g) ds k) : o1 g ds k := by
  refine one_ok (f := fI1 g) (o := o1 g) ?_ ?_ ?_ h
  · intro k h; exact h.elim
  · intro d k h; cases d <;> first | exact h.elim | exact h.2
  · intro d e r k h; cases d <;> exact h.elim
theorem fI2_ok {g : Int → Int → Int} {ds : List D} {k : D → Prop} (h : oG (fI2 g) ds k) : o2 g ds k := by
  refine one_ok (f := fI2 g) (o := o2 g) ?_ ?_ ?_ h
  · intro k h; exact h.elim
  · intro d k h; cases d <;> exact h.elim
  · intro d e r k h
    cases r with
    | nil => cases d <;> cases e <;> first | exact h.elim | exact h.2
    | cons _ _ => cases d <;> cases e <;> exact h.elim
theorem fInt_ok {ds : List D} {k : D → Prop} (h : oG fInt ds k) : oIntB ds k := by
  refine one_ok (f := fInt) (o := oIntB) ?_ ?_ ?_ h
  · intro k h; exact h.elim
  · intro d k h; cases d <;> first | exact h.elim | exact h.2
  · intro d e r k h; cases d <;> exact h.elim
theorem fSqrt_ok {ds : List D} {k : D → Prop} (h : oG fSqrt ds k) : oSqrt ds k := by
  refine one_ok (f := fSqrt) (o := oSqrt) ?_ ?_ ?_ h
  · intro k h; exact h.elim
  · intro d k h; cases d <;> first | exact h.elim | exact h
  · intro d e r k h; cases d <;> exact h.elim
theorem fDivmod_ok {ds : List D} {k : D → Prop} (h : oG fDivmod ds k) : oDivmod ds k := by
  refine one_ok (f := fDivmod) (o := oDivmod) ?_ ?_ ?_ h
  · intro k h; exact h.elim
  · intro d k h; cases d <;> exact h.elim
  · intro d e r k h
    cases r with
    | nil => cases d <;> cases e <;> first | exact h.elim | exact h
    | cons _ _ => cases d <;> cases e <;> exact h.elim
theorem fAll_ok {ds : List D} {k : D → Prop} (h : oG fAll ds k) : oAll ds k := by
  refine one_ok (f := fAll) (o := oAll) ?_ ?_ ?_ h
  · intro k h; exact h.elim
  · intro d k h
    cases d <;> first | exact h.elim | skip
    rename_i xs
    unfold oG fAll at h
    unfold oAll
    simp only at h ⊢
    cases q : bls? xs with
    | none => rw [q] at h; exact h.elim
    | some bs => rw [q] at h; exact h.2
  · intro d e r k h; cases d <;> exact h.elim
theorem fTuple_ok {ds : List D} {k : D → Prop} (h : oG fTuple ds k) : oTuple ds k := by
  refine one_ok (f := fTuple) (o := oTuple) ?_ ?_ ?_ h
  · intro k h; exact h.elim
  · intro d k h; cases d <;> first | exact h.elim | exact h.2
  · intro d e r k h; cases d <;> exact h.elim
theorem fList_ok {ds : List D} {k : D → Prop} (h : oG fList ds k) : oList ds k := by
  refine one_ok (f := fList) (o := oList) ?_ ?_ ?_ h
  · intro k h; exact h.elim
  · intro d k h; cases d <;> first | exact h.elim | exact h.2
  · intro d e r k h; cases d <;> exact h.elim
theorem fRepr_ok {ds : List D} {k : D → Prop} (h : oG fRepr ds k) : oRepr ds k := by
  refine one_ok (f := fRepr) (o := oRepr) ?_ ?_ ?_ h
  · intro k h; exact h.elim
  · intro d k h; cases d <;> first | exact h.elim | exact h | exact h.2
  · intro d e r k h; cases d <;> exact h.elim
theorem g_len (hm : X.mg "len" = none) (ha : PAd X (e :: es) fr) (hg : Gl X "len" := by rfl)
    (he : starEach (e :: es) X.env = (false, eval e X.env) :: starEach es X.env := by rfl) (hp : (backTo pos (starEach es X.env)).any (·.1) = false := by rfl) : PEd X (.Call (.Name "len" p) (e :: es) [] pos) (dBlt (oG fLen) fr) := d_blt call_len_seq (oLen_ok.imp fun _ _ => fLen_ok) hm ha boot_len hg (by decide) (by decide) he hp
abbrev iAbs : Int → Int := fun i => if i < 0 then -i else i
abbrev iMax : Int → Int → Int := fun i j => if j > i then j else i
abbrev iMin : Int → Int → Int := fun i j => if j < i then j else i
abbrev iGcd : Int → Int → Int := fun a b => ((Nat.gcd a.natAbs b.natAbs : Nat) : Int)
theorem boot_abs' : bootBuiltins "abs" = some (.builtin "abs") := by decide +kernel
theorem boot_max' : bootBuiltins "max" = some (.builtin "max") := by decide +kernel
theorem boot_min' : bootBuiltins "min" = some (.builtin "min") := by decide +kernel
theorem boot_int' : bootBuiltins "int" = some (.type "int") := by decide +kernel
theorem boot_divmod' : bootBuiltins "divmod" = some (.builtin "divmod") := by decide +kernel
theorem boot_all' : bootBuiltins "all" = some (.builtin "all") := by decide +kernel
theorem boot_tuple' : bootBuiltins "tuple" = some (.type "tuple") := by decide +kernel
theorem boot_list' : bootBuiltins "list" = some (.type "list") := by decide +kernel
theorem boot_repr' : bootBuiltins "repr" = some (.builtin "repr") := by decide +kernel
theorem g_abs (hm : X.mg "abs" = none) (ha : PAd X (e :: es) fr) (hg : Gl X "abs" := by rfl)
    (he : starEach (e :: es) X.env = (false, eval e X.env) :: starEach es X.env := by rfl) (hp : (backTo pos (starEach es X.env)).any (·.1) = false := by rfl) : PEd X (.Call (.Name "abs" p) (e :: es) [] pos) (dBlt (oG (fI1 iAbs)) fr) := d_blt call_abs (o1_ok.imp fun _ _ => fI1_ok) hm ha boot_abs' hg (by decide) (by decide) he hp
theorem g_max2 (hc : X.calm = true) (hm : X.mg "max" = none) (ha : PAd X (e :: es) fr) (hg : Gl X "max" := by rfl)
    (he : starEach (e :: es) X.env = (false, eval e X.env) :: starEach es X.env := by rfl) (hp : (backTo pos (starEach es X.env)).any (·.1) = false := by rfl) : PEd X (.Call (.Name "max" p) (e :: es) [] pos) (dBlt (oG (fI2 iMax)) fr) := d_blt (call_max2 hc) (o2_ok.imp fun _ _ => fI2_ok) hm ha boot_max' hg (by decide) (by decide) he hp
theorem g_min2 (hc : X.calm = true) (hm : X.mg "min" = none) (ha : PAd X (e :: es) fr) (hg : Gl X "min" := by rfl)
    (he : starEach (e :: es) X.env = (false, eval e X.env) :: starEach es X.env := by rfl) (hp : (backTo pos (starEach es X.env)).any (·.1) = false := by rfl) : PEd X (.Call (.Name "min" p) (e :: es) [] pos) (dBlt (oG (fI2 iMin)) fr) := d_blt (call_min2 hc) (o2_ok.imp fun _ _ => fI2_ok) hm ha boot_min' hg (by decide) (by decide) he hp
theorem g_gcd (hm : X.mg "gcd" = some (.builtin "math.gcd")) (ha : PAd X (e :: es) fr) (hg : Gl X "gcd" := by rfl)
    (he : starEach (e :: es) X.env = (false, eval e X.env) :: starEach es X.env := by rfl) (hp : (backTo pos (starEach es X.env)).any (·.1) = false := by rfl) : PEd X (.Call (.Name "gcd" p) (e :: es) [] pos) (dBlt (oG (fI2 iGcd)) fr) := d_bfun cr_gcd (o2_ok.imp fun _ _ => fI2_ok) hm ha hg (by decide) he hp
theorem g_toint (hm : X.mg "int" = none) (ha : PAd X (e :: es) fr) (hg : Gl X "int" := by rfl)
    (he : starEach (e :: es) X.env = (false, eval e X.env) :: starEach es X.env := by rfl) (hp : (backTo pos (starEach es X.env)).any (·.1) = false := by rfl) : PEd X (.Call (.Name "int" p) (e :: es) [] pos) (dBlt (oG fInt) fr) := d_blty call_int1 (oIntB_ok.imp fun _ _ => fInt_ok) hm ha boot_int' hg (by decide) (by decide) he hp
theorem g_isqrt (hm : X.mg "isqrt" = some (.builtin "math.isqrt")) (ha : PAd X (e :: es) fr) (hg : Gl X "isqrt" := by rfl)
    (he : starEach (e :: es) X.env = (false, eval e X.env) :: starEach es X.env := by rfl) (hp : (backTo pos (starEach es X.env)).any (·.1) = false := by rfl) : PEd X (.Call (.Name "isqrt" p) (e :: es) [] pos) (dBlt (oG fSqrt) fr) := d_bfun cr_isqrt (oSqrt_ok.imp fun _ _ => fSqrt_ok) hm ha hg (by decide) he hp
theorem g_divmod (hm : X.mg "divmod" = none) (ha : PAd X (e :: es) fr) (hg : Gl X "divmod" := by rfl)
    (he : starEach (e :: es) X.env = (false, eval e X.env) :: starEach es X.env := by rfl) (hp : (backTo pos (starEach es X.env)).any (·.1) = false := by rfl) : PEd X (.Call (.Name "divmod" p) (e :: es) [] pos) (dBlt (oG fDivmod) fr) := d_blt call_divmodQ (oDivmod_ok.imp fun _ _ => fDivmod_ok) hm ha boot_divmod' hg (by decide) (by decide) he hp
theorem g_all (hc : X.calm = true) (hm : X.mg "all" = none) (ha : PAd X (e :: es) fr) (hg : Gl X "all" := by rfl)
    (he : starEach (e :: es) X.env = (false, eval e X.env) :: starEach es X.env := by rfl) (hp : (backTo pos (starEach es X.env)).any (·.1) = false := by rfl) : PEd X (.Call (.Name "all" p) (e :: es) [] pos) (dBlt (oG fAll) fr) := d_blt (cr_all hc) (oAll_ok.imp fun _ _ => fAll_ok) hm ha boot_all' hg (by decide) (by decide) he hp
theorem g_totup (hm : X.mg "tuple" = none) (ha : PAd X (e :: es) fr) (hg : Gl X "tuple" := by rfl)
    (he : starEach (e :: es) X.env = (false, eval e X.env) :: starEach es X.env := by rfl) (hp : (backTo pos (starEach es X.env)).any (·.1) = false := by rfl) : PEd X (.Call (.Name "tuple" p) (e :: es) [] pos) (dBlt (oG fTuple) fr) := d_blty call_tuple_of (oTuple_ok.imp fun _ _ => fTuple_ok) hm ha boot_tuple' hg (by decide) (by decide) he hp
theorem g_tolist (hm : X.mg "list" = none) (ha : PAd X (e :: es) fr) (hg : Gl X "list" := by rfl)
    (he : starEach (e :: es) X.env = (false, eval e X.env) :: starEach es X.env := by rfl) (hp : (backTo pos (starEach es X.env)).any (·.1) = false := by rfl) : PEd X (.Call (.Name "list" p) (e :: es) [] pos) (dBlt (oG fList) fr) := d_blty call_list_of (oList_ok.imp fun _ _ => fList_ok) hm ha boot_list' hg (by decide) (by decide) he hp
theorem g_repr (hgd : X.A.guards = some []) (hu : X.A.units + 66 < cLine) (hm : X.mg "repr" = none) (ha : PAd X (e :: es) fr) (hg : Gl X "repr" := by rfl)
    (he : starEach (e :: es) X.env = (false, eval e X.env) :: starEach es X.env := by rfl) (hp : (backTo pos (starEach es X.env)).any (·.1) = false := by rfl) : PEd X (.Call (.Name "repr" p) (e :: es) [] pos) (dBlt (oG fRepr) fr) := d_blt (call_reprD hgd hu) (oRepr_ok.imp fun _ _ => fRepr_ok) hm ha boot_repr' hg (by decide) (by decide) he hp
/-! walks, slices -/
def D.it? : D → Option (List D) | .tup xs => some xs | .lst xs => some xs | _ => none
def iQ (fe : dE) : dI := fun ρ T k => fe ρ T fun d T1 => match d.it? with | some xs => xs.length ≤ 1000000 ∧ k xs T1 | none => False
theorem iQ_eq (fe : dE) : iQ fe = iS fe := by
  funext ρ T k
  unfold iQ iS
  congr 1
  funext d T1
  cases d <;> rfl
theorem g_seq (he : PEd X e fe) : PId X tg e (iQ fe) := by
  rw [iQ_eq]
  exact i_seq he
def D.cut? (d : D) (l h : Option Int) : Option D := match d with | .lst xs => some (.lst (cutD xs l h)) | .scr xs => some (.lst (cutD xs l h)) | .tup xs => some (.tup (cutD xs l h)) | _ => none
def dSlQ (fe : dE) (lo hi : dP) : dE := fun ρ T k => fe ρ T fun x T1 => lo ρ T1 fun l T2 => hi ρ T2 fun h T3 => match x.cut? l h with | some d => k d T3 | none => False
theorem dSlQ_eq (fe : dE) (lo hi : dP) : dSlQ fe lo hi = dSl fe lo hi := by
  funext ρ T k
  unfold dSlQ dSl
  congr 1
  funext x T1
  congr 1
  funext l T2
  congr 1
  funext h T3
  cases x <;> rfl
theorem g_slice {lo hi : Option Expr} {fl fh : dP} {p2 : Pos} (he : PEd X e fe) (hl : POd X lo fl) (hh : POd X hi fh) : PEd X (.Subscript e (.Slice lo hi none p2) pos) (dSlQ fe fl fh) := by
  rw [dSlQ_eq]
  exact d_slice he hl hh
end
end L2.G

namespace L2.G
open PySem PySem.Spec PyProof.Rows
section
variable {i j : Int} {b c : Bool} {s u : Str} {xs ys : List D} {d : D}
theorem fAdd_int : fAdd (.int i) (.int j) = some (True, .int (i + j)) := rfl
theorem fAdd_lst : fAdd (.lst xs) (.lst ys) = some (xs.length + ys.length ≤ 1000000, .lst (xs ++ ys)) := rfl
theorem fAdd_tup : fAdd (.tup xs) (.tup ys) = some (xs.length + ys.length ≤ 1000000, .tup (xs ++ ys)) := rfl
theorem fAdd_str : fAdd (.str s) (.str u) = some (s.length + u.length ≤ 1000000, .str (s ++ u)) := rfl
theorem fSub_int : fSub (.int i) (.int j) = some (True, .int (i - j)) := rfl
theorem fSub_bl : fSub (.bl b) (.bl c) = some (True, .int (b2i b - b2i c)) := rfl
theorem fMul_int : fMul (.int i) (.int j) = some (MulOk i j, .int (i * j)) := rfl
theorem fMul_lst : fMul (.lst xs) (.int i) = some (-(2 ^ 63) ≤ i ∧ i < 2 ^ 63 ∧ xs.length * i.toNat ≤ 1000000, .lst (repD xs i.toNat)) := rfl
theorem fDiv_int : fDiv (.int i) (.int j) = some (DivOk i j, .int (i / j)) := rfl
theorem fMod_int : fMod (.int i) (.int j) = some (0 < j, .int (i % j)) := rfl
theorem fPow_int : fPow (.int i) (.int j) = some (CPow i j, .int (i ^ j.toNat)) := rfl
theorem fShl_int : fShl (.int i) (.int j) = some (CPow i j, .int (i * 2 ^ j.toNat)) := rfl
theorem fLt_int : fLt (.int i) (.int j) = some (True, .bl (decide (i < j))) := rfl
theorem fLe_int : fLe (.int i) (.int j) = some (True, .bl (decide (i ≤ j))) := rfl
theorem fGt_int : fGt (.int i) (.int j) = some (True, .bl (decide (j < i))) := rfl
theorem fGe_int : fGe (.int i) (.int j) = some (True, .bl (decide (j ≤ i))) := rfl
theorem fIn_lst : fIn d (.lst ys) = some (d.eqOk ∧ D.eqOk (.lst ys), .bl (ys.any fun z => eqD z d)) := rfl
theorem fNotIn_lst : fNotIn d (.lst ys) = some (d.eqOk ∧ D.eqOk (.lst ys), .bl (!ys.any fun z => eqD z d)) := rfl
def ixR : Option D → PD | some d => some (True, d) | none => none
theorem ixR_some : ixR (some d) = some (True, d) := rfl
theorem fIx_tup : fIx (.tup xs) (.int i) = ixR (atI xs i) := by show (match atI xs i with | some d => some (True, d) | none => none) = ixR (atI xs i); cases atI xs i <;> rfl
theorem fIx_lst : fIx (.lst xs) (.int i) = ixR (atI xs i) := by show (match atI xs i with | some d => some (True, d) | none => none) = ixR (atI xs i); cases atI xs i <;> rfl
theorem fIx_scr : fIx (.scr xs) (.int i) = ixR (atI xs i) := by show (match atI xs i with | some d => some (True, d) | none => none) = ixR (atI xs i); cases atI xs i <;> rfl
theorem fLen_tup : fLen [.tup xs] = some (True, .int xs.length) := rfl
theorem fLen_lst : fLen [.lst xs] = some (True, .int xs.length) := rfl
theorem fLen_scr : fLen [.scr xs] = some (True, .int xs.length) := rfl
theorem fI1_int {g : Int → Int} : fI1 g [.int i] = some (True, .int (g i)) := rfl
theorem fI2_int {g : Int → Int → Int} : fI2 g [.int i, .int j] = some (True, .int (g i j)) := rfl
theorem fInt_int : fInt [.int i] = some (True, .int i) := rfl
theorem fInt_bl : fInt [.bl b] = some (True, .int (if b then 1 else 0)) := rfl
theorem fDivmod_int : fDivmod [.int i, .int j] = some (DmOk i j, .tup [.int (i / j), .int (i % j)]) := rfl
def blR (f : List Bool → Bool) : Option (List Bool) → PD | some bs => some (True, .bl (f bs)) | none => none
theorem blR_some {f : List Bool → Bool} {bs : List Bool} : blR f (some bs) = some (True, .bl (f bs)) := rfl
theorem fAll_lst : fAll [.lst xs] = blR (fun bs => bs.all fun b => b) (bls? xs) := by show (match bls? xs with | some bs => some (True, D.bl (bs.all fun b => b)) | none => none) = blR (fun bs => bs.all fun b => b) (bls? xs); cases bls? xs <;> rfl
theorem fAny_lst : fAny [.lst xs] = blR (fun bs => bs.any fun b => b) (bls? xs) := by show (match bls? xs with | some bs => some (True, D.bl (bs.any fun b => b)) | none => none) = blR (fun bs => bs.any fun b => b) (bls? xs); cases bls? xs <;> rfl
def nuR : Option (List Int) → PD | some bs => some (True, .int bs.sum) | none => none
theorem nuR_some {bs : List Int} : nuR (some bs) = some (True, .int bs.sum) := rfl
theorem fSum_lst : fSum [.lst xs] = nuR (nums? xs) := by show (match nums? xs with | some bs => some (True, D.int bs.sum) | none => none) = nuR (nums? xs); cases nums? xs <;> rfl
theorem fTuple_lst : fTuple [.lst xs] = some (True, .tup xs) := rfl
theorem fTuple_tup : fTuple [.tup xs] = some (True, .tup xs) := rfl
theorem fList_lst : fList [.lst xs] = some (True, .lst xs) := rfl
theorem fList_tup : fList [.tup xs] = some (True, .lst xs) := rfl
theorem fList_scr : fList [.scr xs] = some (True, .lst xs) := rfl
theorem fRepr_int : fRepr [.int i] = some (i.natAbs.log2 < 1920, .str (toString i)) := rfl
theorem fRepr_tup : fRepr [.tup xs] = some (D.shOk (.tup xs), .str (D.py (.tup xs)).shown) := rfl
theorem fRepr_lst : fRepr [.lst xs] = some (D.shOk (.lst xs), .str (D.py (.lst xs)).shown) := rfl
theorem fRepr_bl : fRepr [.bl b] = some (True, .str (if b then "True" else "False")) := rfl
theorem fRepr_non : fRepr [.non] = some (True, .str "None") := rfl
theorem it_tup : (D.tup xs).it? = some xs := rfl
theorem it_lst : (D.lst xs).it? = some xs := rfl
theorem cutq_lst {l h : Option Int} : (D.lst xs).cut? l h = some (.lst (cutD xs l h)) := rfl
theorem cutq_scr {l h : Option Int} : (D.scr xs).cut? l h = some (.lst (cutD xs l h)) := rfl
theorem cutq_tup {l h : Option Int} : (D.tup xs).cut? l h = some (.tup (cutD xs l h)) := rfl
theorem isNon_non : D.non.isNon = true := rfl
theorem isNon_int : (D.int i).isNon = false := rfl
theorem isNon_bl : (D.bl b).isNon = false := rfl
theorem isNon_str : (D.str s).isNon = false := rfl
theorem isNon_tup : (D.tup xs).isNon = false := rfl
theorem isNon_lst : (D.lst xs).isNon = false := rfl
theorem bls_nil : bls? [] = some [] := rfl
theorem bls_cons : bls? (.bl b :: xs) = (bls? xs).map (b :: ·) := rfl
theorem nums_nil : nums? [] = some [] := rfl
theorem nums_cons : nums? (.int i :: xs) = (nums? xs).map (i :: ·) := rfl
theorem all_nil' : ([] : List Bool).all (fun b => b) = true := rfl
theorem all_cons' {bs : List Bool} : (b :: bs).all (fun b => b) = (b && bs.all fun b => b) := rfl
theorem any_nil' : ([] : List Bool).any (fun b => b) = false := rfl
theorem any_cons' {bs : List Bool} : (b :: bs).any (fun b => b) = (b || bs.any fun b => b) := rfl
end
/-- a test's answer that hangs on nothing -/
theorem ifT {A B : Prop} : (if True then A else B) = A := if_pos trivial
theorem ifF {A B : Prop} : (if False then A else B) = B := if_neg (fun h => h)

theorem ifA {A B X Y : Prop} [Decidable A] [Decidable B] : (if A then (if B then X else Y) else Y) = (if A ∧ B then X else Y) := by
  by_cases a : A <;> by_cases b : B <;> simp [a, b]
theorem ifO {A B X Y : Prop} [Decidable A] [Decidable B] : (if A then X else (if B then X else Y)) = (if A ∨ B then X else Y) := by
  by_cases a : A <;> by_cases b : B <;> simp [a, b]
/-! texts of data -/
mutual
/-- numbers below 2 ^ 1900 -/
def D.lite : D → Prop
  | .non => True | .bl _ => True | .int i => i.natAbs < 2 ^ 1900 | .str x => PyData.strOk x = true ∧ PyData.strOk (reprText x) = true ∧ (x.cps.toList.all fun c => decide (c < 16 ^ 8)) = true | .tup xs => D.liteL xs | .lst xs => D.liteL xs | .obj _ _ _ => False | .ref _ => False | .scr _ => False | .dct _ _ => False
def D.liteL : List D → Prop
  | [] => True | x :: r => x.lite ∧ D.liteL r
end
mutual
theorem lite_isPy : ∀ {d : D}, d.lite → d.isPy = true
  | .non, _ => rfl
  | .bl _, _ => rfl
  | .int _, _ => rfl
  | .str _, _ => rfl
  | .tup xs, h => by have := lite_isPyL (ds := xs) (by simpa only [D.lite] using h); simpa only [D.isPy] using this
  | .lst xs, h => by have := lite_isPyL (ds := xs) (by simpa only [D.lite] using h); simpa only [D.isPy] using this
  | .obj _ _ _, h => by simp only [D.lite] at h
  | .ref _, h => by simp only [D.lite] at h
  | .scr _, h => by simp only [D.lite] at h
  | .dct _ _, h => by simp only [D.lite] at h
theorem lite_isPyL : ∀ {ds : List D}, D.liteL ds → D.isPyL ds = true
  | [], _ => rfl
  | x :: r, h => by
    simp only [D.liteL] at h
    simp only [D.isPyL, lite_isPy h.1, lite_isPyL h.2, Bool.and_self]
end
mutual
theorem lite_lay : ∀ {d : D}, d.lite → d.py.canLay0 = true
  | .non, _ => rfl
  | .bl _, _ => rfl
  | .int _, _ => rfl
  | .str _, h => by simp only [D.lite] at h; simp only [D.py, PyData.canLay0]; exact h.1
  | .tup xs, h => by have := lite_layL (ds := xs) (by simpa only [D.lite] using h); simpa only [D.py, PyData.canLay0] using this
  | .lst xs, h => by have := lite_layL (ds := xs) (by simpa only [D.lite] using h); simpa only [D.py, PyData.canLay0] using this
  | .obj _ _ _, h => by simp only [D.lite] at h
  | .ref _, h => by simp only [D.lite] at h
  | .scr _, h => by simp only [D.lite] at h
  | .dct _ _, h => by simp only [D.lite] at h
theorem lite_layL : ∀ {ds : List D}, D.liteL ds → PyData.canLayAll0 (D.pyL ds) = true
  | [], _ => rfl
  | x :: r, h => by
    simp only [D.liteL] at h
    simp only [D.pyL, PyData.canLayAll0, lite_lay h.1, lite_layL h.2, Bool.and_self]
end
theorem log_lt' {i : Int} (h : i.natAbs < 2 ^ 1900) : i.natAbs.log2 < 1900 := by
  by_cases h0 : i.natAbs = 0
  · rw [h0]; decide
  · exact (Nat.log2_lt h0).mpr h
mutual
theorem lite_show : ∀ {d : D}, d.lite → d.py.showable = true
  | .non, _ => rfl
  | .bl _, _ => rfl
  | .int i, h => by
    simp only [D.lite] at h
    have := log_lt' h
    simp only [D.py, PyData.showable, decide_eq_true_eq]
    omega
  | .str _, h => rfl
  | .tup xs, h => by have := lite_showL (ds := xs) (by simpa only [D.lite] using h); simpa only [D.py, PyData.showable] using this
  | .lst xs, h => by have := lite_showL (ds := xs) (by simpa only [D.lite] using h); simpa only [D.py, PyData.showable] using this
  | .obj _ _ _, h => by simp only [D.lite] at h
  | .ref _, h => by simp only [D.lite] at h
  | .scr _, h => by simp only [D.lite] at h
  | .dct _ _, h => by simp only [D.lite] at h
theorem lite_showL : ∀ {ds : List D}, D.liteL ds → PyData.showableAll (D.pyL ds) = true
  | [], _ => rfl
  | x :: r, h => by
    simp only [D.liteL] at h
    simp only [D.pyL, PyData.showableAll, lite_show h.1, lite_showL h.2, Bool.and_self]
end
mutual
theorem lite_short : ∀ {d : D}, d.lite → d.py.leavesShort 2000 = true
  | .non, _ => rfl
  | .bl _, _ => rfl
  | .int i, h => by
    simp only [D.lite] at h
    have h1 := int_text_length_le (a := i) (k := 1900) (by decide) (log_lt' h)
    have e : (PyData.shown (.int i)).length = (toString i).length := by
      show (Str.ofString (toString i)).length = _
      exact PySem.ofString_length _
    simp only [D.py, PyData.leavesShort, decide_eq_true_eq]
    omega
  | .str _, h => by simp only [D.lite] at h; simp only [D.py, PyData.leavesShort]; exact h.2.2
  | .tup xs, h => by have := lite_shortL (ds := xs) (by simpa only [D.lite] using h); simpa only [D.py, PyData.leavesShort] using this
  | .lst xs, h => by have := lite_shortL (ds := xs) (by simpa only [D.lite] using h); simpa only [D.py, PyData.leavesShort] using this
  | .obj _ _ _, h => by simp only [D.lite] at h
  | .ref _, h => by simp only [D.lite] at h
  | .scr _, h => by simp only [D.lite] at h
  | .dct _ _, h => by simp only [D.lite] at h
theorem lite_shortL : ∀ {ds : List D}, D.liteL ds → PyData.leavesShortAll 2000 (D.pyL ds) = true
  | [], _ => rfl
  | x :: r, h => by
    simp only [D.liteL] at h
    simp only [D.pyL, PyData.leavesShortAll, lite_short h.1, lite_shortL h.2, Bool.and_self]
end
/-- data with small numbers has a text -/
theorem lite_shOk {d : D} (h : d.lite) (hb : d.py.bulk ≤ 4000) (hd : d.py.depth ≤ 64) : d.shOk := by
  refine ⟨⟨lite_isPy h, ?_⟩, lite_show h, ?_⟩
  · unfold SeqAt.shaped
    simp only [lite_lay h, Bool.true_and, decide_eq_true_eq]
    exact hd
  · have h1 := PyData.shown_le_bulk 2000 (by decide) d.py (lite_short h)
    have h2 : (2000 + 2) * d.py.bulk ≤ 2002 * 4000 := Nat.mul_le_mul_left _ hb
    rw [sizeLine_eq]
    omega
set_option exponentiation.threshold 3000 in
theorem Sz.lite {n : Nat} {i : Int} (h : Sz n i) (hn : n ≤ 1900) : (D.int i).lite := by
  simp only [D.lite]
  exact h.mono hn
end L2.G

namespace L2.G
open PySem PySem.Spec PyProof.Rows
/-! == of data, piece by piece -/
def eqDL (xs ys : List D) : Bool := PyData.eqvAll (D.pyL xs) (D.pyL ys)
section
variable {i j : Int} {b c : Bool} {s u : Str} {xs ys : List D} {d e : D}
theorem eqD_int : eqD (.int i) (.int j) = decide (i = j) := by unfold eqD; simp only [D.py, PyData.eqv]; by_cases h : i = j <;> simp [h]
theorem eqD_str : eqD (.str s) (.str u) = decide (s = u) := by unfold eqD; simp only [D.py, PyData.eqv]; by_cases h : s = u <;> simp [h]
theorem eqD_bl : eqD (.bl b) (.bl c) = decide (b = c) := by unfold eqD; simp only [D.py, PyData.eqv]; cases b <;> cases c <;> rfl
theorem eqD_nn : eqD .non .non = true := by unfold eqD; simp only [D.py, PyData.eqv]
theorem eqD_ni : eqD .non (.int i) = false := by unfold eqD; simp only [D.py, PyData.eqv]
theorem eqD_in : eqD (.int i) .non = false := by unfold eqD; simp only [D.py, PyData.eqv]
theorem eqD_nt : eqD .non (.tup xs) = false := by unfold eqD; simp only [D.py, PyData.eqv]
theorem eqD_tn : eqD (.tup xs) .non = false := by unfold eqD; simp only [D.py, PyData.eqv]
theorem eqD_tup : eqD (.tup xs) (.tup ys) = eqDL xs ys := by unfold eqD eqDL; simp only [D.py, PyData.eqv]
theorem eqD_lst : eqD (.lst xs) (.lst ys) = eqDL xs ys := by unfold eqD eqDL; simp only [D.py, PyData.eqv]
theorem eqDL_nil : eqDL [] [] = true := rfl
theorem eqDL_nc : eqDL [] (d :: xs) = false := rfl
theorem eqDL_cn : eqDL (d :: xs) [] = false := rfl
theorem eqDL_cons : eqDL (d :: xs) (e :: ys) = (eqD d e && eqDL xs ys) := rfl
end
theorem ok_cx {a b : Int} : (D.tup [.int a, .int b]).eqOk := ⟨rfl, rfl⟩
theorem ok_int {a : Int} : (D.int a).eqOk := ⟨rfl, rfl⟩
end L2.G

namespace L2.G
open PySem PySem.Spec PyProof.Rows
/-- lo, lo - 1, .. : n of them -/
def downL (lo : Int) : Nat → List D
  | 0 => [] | n + 1 => .int lo :: downL (lo - 1) n
def iR3 (fr : dA) : dI := fun ρ T k => fr ρ T fun as T1 => match as with
  | [.val (.int i), .val (.int j), .val (.int c)] => (c = -1 ∧ i - j ≤ 1000000 ∧ -(2 ^ 61) ≤ i ∧ i < 2 ^ 61 ∧ -(2 ^ 61) ≤ j ∧ j < 2 ^ 61) ∧ k (downL i (i - j).toNat) T1 | _ => False
section
variable {X : Cx} {tg : Expr} {fr : dA} {p pos : Pos}
end
/-- the whole root -/
def isq (n : Int) : Int := ((Float64.isqrt n.toNat : Nat) : Int)
theorem fSqrt_isq {i : Int} : fSqrt [.int i] = some (0 ≤ i ∧ i.natAbs < 2 ^ 13000, .int (isq i)) := rfl
end L2.G

namespace L2.G
open PySem PySem.Spec PyProof.Rows
section
variable {X : Cx} {a : Expr} {es : List Expr} {fa : dE} {fr : dA} {pos : Pos}
/-- x, y = a, [..] where y's list is its own -/
def sParO (i j : Nat) (fa : dE) (fr : dA) : dS := fun k ρ T => fa ρ T fun d T1 => fr ρ T1 fun as T2 => match vals? as with | some ds => ds.length ≤ 1000000 ∧ k.nx ((ρ.set i (some (.val d))).set j (some (.own ds))) T2 | none => False
/-- *e among arguments -/
theorem ArgL.app {K : PySem.W.Frag} {t : Option Addr} {F : Hp} {as : List SV} {ws : List V} (q : ArgL K t F as ws) : ∀ {xs : List D} {vs : List V}, RepL K F xs vs → ArgL K t F (xs.map SV.val ++ as) (vs ++ ws)
  | _, _, .nil => q
  | _, _, .cons r rr => .val r (ArgL.app q rr)
def aStar (fe : dE) (fr : dA) : dA := fun ρ T k => fe ρ T fun d T1 => match d.it? with | some xs => fr ρ T1 fun as T2 => k (xs.map SV.val ++ as) T2 | none => False
theorem a_star {e : Expr} {fe : dE} {p : Pos} (he : PEd X e fe) (hr : PAd X es fr) (hs : starEach (.Starred e p :: es) X.env = (true, eval e X.env) :: starEach es X.env := by rfl) : PAd X (.Starred e p :: es) (aStar fe fr) := by
  refine pa_imp (StX.pa_star he hr hs) fun σ H Q h => ?_
  obtain ⟨ρ, T, t, F, k, w, h, f⟩ := h
  refine ⟨ρ, T, t, F, _, w, h, fun v H1 F1 d T1 w1 g1 r1 h1 => ?_⟩
  cases d <;> first | exact h1.elim | skip
  · rename_i xs
    obtain ⟨a, vs, rfl, hq, hr⟩ := rep_tup r1
    exact ⟨a, vs, rfl, .inl (same_t w1.sub hq), ρ, T1, t, F1, _, w.grow g1 w1, h1, fun ys H2 F2 as T2 w2 g2 r2 h2 => f _ _ _ _ _ w2 (g1.trans g2) (r2.app (hr.mono g2.sub)) h2⟩
  · rename_i xs
    obtain ⟨a, vs, rfl, hq, hr⟩ := rep_lst r1
    exact ⟨a, vs, rfl, .inr (.of (w1.sub _ _ hq)), ρ, T1, t, F1, _, w.grow g1 w1, h1, fun ys H2 F2 as T2 w2 g2 r2 h2 => f _ _ _ _ _ w2 (g1.trans g2) (r2.app (hr.mono g2.sub)) h2⟩
end
end L2.G

namespace L2.G
open PySem PySem.Spec PyProof.Rows
/-! enumerate(e) over a list or a tuple -/
section
variable {X : Cx} {e : Expr} {fe : dE} {p pos tpos : Pos} {elts : List Expr} {kk : Nat}
def enD : Int → List D → List D
  | _, [] => [] | i, d :: r => .tup [.int i, d] :: enD (i + 1) r
def iEn (fe : dE) : dI := fun ρ T k => fe ρ T fun d T1 => match d.it? with | some xs => xs.length ≤ 1000000 ∧ k (enD 0 xs) T1 | none => False
end
end L2.G

namespace L2.G
open PySem PySem.Spec PyProof.Rows
/-! in, not in: over lists and tuples -/
def rInTD (K : PySem.W.Frag) : R2 := fun x y H Q => ∃ d ds, Dp K H x d ∧ Dp K H y (.tuple ds) ∧ SeqAt.shaped d = true ∧ SeqAt.shaped (.tuple ds) = true ∧ Q (.bl (ds.any fun z => PyData.eqv z d)) H
def rNotInTD (K : PySem.W.Frag) : R2 := fun x y H Q => ∃ d ds, Dp K H x d ∧ Dp K H y (.tuple ds) ∧ SeqAt.shaped d = true ∧ SeqAt.shaped (.tuple ds) = true ∧ Q (.bl (!ds.any fun z => PyData.eqv z d)) H
section
variable {X : Cx}
theorem op_inTD (hu : X.A.units + 65 < cLine) : OpR X (compareOp .In) (rInTD X.K) := by
  intro pins s σ H x y v u Q I rx ry h
  obtain ⟨d, ds, hd, he, sd, se, q⟩ := h
  obtain ⟨as, r1⟩ := Dp.reads I d x v hd rx
  obtain ⟨bs, r2⟩ := Dp.reads I (.tuple ds) y u he ry
  exact SeqAt.in_tuple_reads r2 r1 (SeqAt.canLay_of_shaped se) (SeqAt.canLay_of_shaped sd) (room_in_shaped sd hu) ⟨.bl _, H, I, rfl, q⟩
theorem op_notInTD (hu : X.A.units + 65 < cLine) : OpR X (compareOp .NotIn) (rNotInTD X.K) := by
  intro pins s σ H x y v u Q I rx ry h
  obtain ⟨d, ds, hd, he, sd, se, q⟩ := h
  obtain ⟨as, r1⟩ := Dp.reads I d x v hd rx
  obtain ⟨bs, r2⟩ := Dp.reads I (.tuple ds) y u he ry
  exact SeqAt.notIn_tuple_reads r2 r1 (SeqAt.canLay_of_shaped se) (SeqAt.canLay_of_shaped sd) (room_in_shaped sd hu) ⟨.bl _, H, I, rfl, q⟩
end
def fInS (x y : D) : PD := match y with | .lst ys => some (x.eqOk ∧ D.eqOk (.lst ys), .bl (ys.any fun z => eqD z x)) | .tup ys => some (x.eqOk ∧ D.eqOk (.tup ys), .bl (ys.any fun z => eqD z x)) | _ => none
def fNotInS (x y : D) : PD := match y with | .lst ys => some (x.eqOk ∧ D.eqOk (.lst ys), .bl (!ys.any fun z => eqD z x)) | .tup ys => some (x.eqOk ∧ D.eqOk (.tup ys), .bl (!ys.any fun z => eqD z x)) | _ => none
theorem fInS_lst {x : D} {ys : List D} : fInS x (.lst ys) = some (x.eqOk ∧ D.eqOk (.lst ys), .bl (ys.any fun z => eqD z x)) := rfl
theorem fInS_tup {x : D} {ys : List D} : fInS x (.tup ys) = some (x.eqOk ∧ D.eqOk (.tup ys), .bl (ys.any fun z => eqD z x)) := rfl
theorem fNotInS_lst {x : D} {ys : List D} : fNotInS x (.lst ys) = some (x.eqOk ∧ D.eqOk (.lst ys), .bl (!ys.any fun z => eqD z x)) := rfl
theorem fNotInS_tup {x : D} {ys : List D} : fNotInS x (.tup ys) = some (x.eqOk ∧ D.eqOk (.tup ys), .bl (!ys.any fun z => eqD z x)) := rfl
theorem fInS_ok {K : PySem.W.Frag} : OpS K (fun x y H Q => rInD K x y H Q ∨ rInTD K x y H Q) (oF fInS) := by
  intro t F H T x y v w k Q wt r1 r2 q f
  cases y <;> first | exact q.elim | skip
  · obtain ⟨⟨q1, q2⟩, q3⟩ := q
    refine .inr ⟨x.py, D.pyL _, r1.dp wt.sub q1.1, r2.dp wt.sub q2.1, q1.2, q2.2, ?_⟩
    rw [pyL_any]
    exact f.val wt (.bl _) q3
  · obtain ⟨⟨q1, q2⟩, q3⟩ := q
    refine .inl ⟨x.py, D.pyL _, r1.dp wt.sub q1.1, r2.dp wt.sub q2.1, q1.2, q2.2, ?_⟩
    rw [pyL_any]
    exact f.val wt (.bl _) q3
theorem fNotInS_ok {K : PySem.W.Frag} : OpS K (fun x y H Q => rNotInD K x y H Q ∨ rNotInTD K x y H Q) (oF fNotInS) := by
  intro t F H T x y v w k Q wt r1 r2 q f
  cases y <;> first | exact q.elim | skip
  · obtain ⟨⟨q1, q2⟩, q3⟩ := q
    refine .inr ⟨x.py, D.pyL _, r1.dp wt.sub q1.1, r2.dp wt.sub q2.1, q1.2, q2.2, ?_⟩
    rw [pyL_any]
    exact f.val wt (.bl _) q3
  · obtain ⟨⟨q1, q2⟩, q3⟩ := q
    refine .inl ⟨x.py, D.pyL _, r1.dp wt.sub q1.1, r2.dp wt.sub q2.1, q1.2, q2.2, ?_⟩
    rw [pyL_any]
    exact f.val wt (.bl _) q3
section
variable {X : Cx} {a b e : Expr} {fa fb fe : dE} {fr : dA} {p pos : Pos} {n : Nat} {es : List Expr} {tg : Expr}
theorem d_finS (hr : Room n X.A) (ha : PEd X a fa) (hb : PEd X b fb) (hm : behindInMarks .In b = false := by rfl) : PEd X (.Compare a [.In] [b] pos) (dOp (oF fInS) fa fb) := d_cmp ((op_inD (by have := room66 hr; omega)).or (op_inTD (by have := room66 hr; omega))) fInS_ok ha hb hm
theorem t_finS (hr : Room n X.A) (ha : PEd X a fa) (hb : PEd X b fb) (hm : behindInMarks .In b = false := by rfl) : PTd X (.Compare a [.In] [b] pos) (dTst (dOp (oF fInS) fa fb)) := d_tcmp ((op_inD (by have := room66 hr; omega)).or (op_inTD (by have := room66 hr; omega))) fInS_ok ha hb hm
theorem t_fniS (hr : Room n X.A) (ha : PEd X a fa) (hb : PEd X b fb) (hm : behindInMarks .NotIn b = false := by rfl) : PTd X (.Compare a [.NotIn] [b] pos) (dTst (dOp (oF fNotInS) fa fb)) := d_tcmp ((op_notInD (by have := room66 hr; omega)).or (op_notInTD (by have := room66 hr; omega))) fNotInS_ok ha hb hm
end

/-! own lists read for a while -/
mutual
def D.noL : D → Prop
  | .non => True | .bl _ => True | .int _ => True | .str _ => True | .tup xs => D.noLL xs | .lst _ => False | .obj _ _ _ => False | .ref _ => True | .scr _ => False | .dct _ _ => False
def D.noLL : List D → Prop
  | [] => True | x :: r => x.noL ∧ D.noLL r
end
def cutH (F : Hp) (l : Addr) : Hp := fun b => if b = l then none else F b
theorem cut_ne {F : Hp} {l b : Addr} (h : b ≠ l) : cutH F l b = F b := if_neg h
theorem cut_self {F : Hp} {l : Addr} : cutH F l l = none := if_pos rfl
theorem cut_t {K : PySem.W.Frag} {F : Hp} {l a : Addr} {lv xs : List V} (hl : F l = some (.lst lv)) (h : SqT K F a xs) : SqT K (cutH F l) a xs := by
  rcases h with (h | ⟨o, h⟩) | h
  · left; left
    rw [cut_ne (fun z => by rw [z, hl] at h; cases h)]; exact h
  · left; right
    exact ⟨o, by rw [cut_ne (fun z => by rw [z, hl] at h; cases h)]; exact h⟩
  · right; exact h
mutual
theorem noL_drop {K : PySem.W.Frag} {F : Hp} {l : Addr} {lv : List V} (hl : F l = some (.lst lv)) : ∀ {d : D} {v : V}, Rep K F d v → d.noL → Rep K (cutH F l) d v
  | _, _, .non, _ => .non
  | _, _, .bl b, _ => .bl b
  | _, _, .int i, _ => .int i
  | _, _, .str x, _ => .str x
  | _, _, .tup h q, n => .tup (cut_t hl h) (noLL_drop hl q (by simpa only [D.noL] using n))
  | _, _, .lst _ _, n => by simp only [D.noL] at n
  | _, _, .obj _ _ _, n => by simp only [D.noL] at n
  | _, _, .ref a h, _ => .ref a h
  | _, _, .scr _ _, n => by simp only [D.noL] at n
  | _, _, .dct _ _ _, n => by simp only [D.noL] at n
theorem noLL_drop {K : PySem.W.Frag} {F : Hp} {l : Addr} {lv : List V} (hl : F l = some (.lst lv)) : ∀ {ds : List D} {vs : List V}, RepL K F ds vs → D.noLL ds → RepL K (cutH F l) ds vs
  | _, _, .nil, _ => .nil
  | _, _, .cons h q, n => .cons (noL_drop hl h (by simp only [D.noLL] at n; exact n.1)) (noLL_drop hl q (by simp only [D.noLL] at n; exact n.2))
end
theorem Wd.frz {K : PySem.W.Frag} {ρ : En} {T : Tk} {t : Option Addr} {σ : L2.St} {F H : Hp} (w : Wd K ρ T t σ F H) {i : Nat} {xs : List D} (e : ρ[i]? = some (some (.own xs))) :
    ∃ l vs, F l = none ∧ Wd K (ρ.set i (some (.val (.lst xs)))) T t σ (upd F l (.lst vs)) H := by
  obtain ⟨v, hv, l, vs, rfl, hF, hH, r, nt⟩ := w.slot i _ e
  have sm : Same F (upd F l (.lst vs)) := same_upd hF
  have sub : Same (upd F l (.lst vs)) H := fun b u q => by
    by_cases hb : b = l
    · subst hb; rw [upd_same] at q; cases q; exact hH
    · rw [upd_ne hb] at q; exact w.wt.sub b u q
  have wt : Wt K T t (upd F l (.lst vs)) H := ⟨sub, fun a ea => by
    obtain ⟨n, us, hu, ru⟩ := w.wt.tank a ea
    have ne : a ≠ l := fun z => nt (by rw [ea, z])
    exact ⟨by rw [upd_ne ne]; exact n, us, hu, ru.mono sm⟩⟩
  refine ⟨l, vs, hF, wt, by simpa using w.len, fun j s ej => ?_, fun j j' ys zs m e1 e2 e3 e4 => ?_⟩
  · rcases getSet ej with ⟨rfl, _, e'⟩ | ⟨ne, e'⟩
    · cases e'
      exact ⟨.ref l, hv, .lst upd_same (r.mono sm)⟩
    · obtain ⟨u, h1, h2⟩ := w.slot j s e'
      refine ⟨u, h1, ?_⟩
      cases s with
      | val d => exact Rep.mono sm h2
      | tank => exact h2
      | exc _ _ => exact ⟨h2.1, fun dd fl x q => let ⟨n, u, f1, r1⟩ := h2.2 dd fl x q; ⟨n, u, f1, r1.mono sm⟩⟩
      | own ys =>
        obtain ⟨m, us, rfl, f1, f2, f3, f4⟩ := h2
        have nm : m ≠ l := fun z => ne (w.apart i j xs ys l e e' hv (z ▸ h1))
        exact ⟨m, us, rfl, by rw [upd_ne nm]; exact f1, f2, f3.mono sm, f4⟩
  · rcases getSet e1 with ⟨_, _, z⟩ | ⟨n1, e1⟩
    · cases z
    · rcases getSet e2 with ⟨_, _, z⟩ | ⟨n2, e2⟩
      · cases z
      · exact w.apart j j' ys zs m e1 e2 e3 e4
theorem wt_cut {K : PySem.W.Frag} {T : Tk} {t : Option Addr} {F H : Hp} {l : Addr} {lv : List V} (hl : F l = some (.lst lv)) (w : Wt K T t F H) (n : D.noLL T) : Wt K T t (cutH F l) H :=
  ⟨fun b u q => by
    by_cases hb : b = l
    · rw [hb, cut_self] at q; cases q
    · rw [cut_ne hb] at q; exact w.sub b u q, fun a ea => by
    obtain ⟨n1, us, hu, ru⟩ := w.tank a ea
    refine ⟨?_, us, hu, noLL_drop hl ru n⟩
    by_cases hb : a = l
    · rw [hb, cut_self]
    · rw [cut_ne hb]; exact n1⟩
theorem grow_cut {t : Option Addr} {F H F1 H1 : Hp} {l : Addr} {lv : List V} (hF : F l = none) (g : Grow t (upd F l (.lst lv)) H F1 H1) : Grow t F H (cutH F1 l) H1 :=
  ⟨fun b u q => by
    have ne : b ≠ l := fun z => by rw [z, hF] at q; cases q
    rw [cut_ne ne]
    exact g.sub b u (by rw [upd_ne ne]; exact q), g.keep, fun a o h n => by
    by_cases hb : a = l
    · rw [hb, cut_self]
    · rw [cut_ne hb]; exact g.new a o h (by rw [upd_ne hb]; exact n), g.there⟩
def dView (i : Nat) (fe : dE) : dE := fun ρ T k => match ρ[i]? with | some (some (.own xs)) => fe (ρ.set i (some (.val (.lst xs)))) T fun d T1 => d.noL ∧ D.noLL T1 ∧ k d T1 | _ => fe ρ T k
def dViewT (i : Nat) (tc : dT) : dT := fun ρ T k => match ρ[i]? with | some (some (.own xs)) => tc (ρ.set i (some (.val (.lst xs)))) T fun d T1 => D.noLL T1 ∧ k d T1 | _ => tc ρ T k
section
variable {X : Cx} {e : Expr} {es : List Expr} {fe : dE} {fr : dA} {p pos : Pos} {st : Stmt} {f : dS}
theorem d_view (i : Nat) (he : PEd X e fe) : PEd X e (dView i fe) := by
  refine pe_imp he fun σ H Q h => ?_
  obtain ⟨ρ, T, t, F, k, w, h, f⟩ := h
  unfold dView at h
  split at h
  · rename_i xs e0
    obtain ⟨l, vs, hF, w'⟩ := w.frz e0
    refine ⟨_, T, t, _, _, w', h, fun v H1 F1 d T1 w1 g1 r1 h1 => ?_⟩
    obtain ⟨n1, n2, h1⟩ := h1
    have hl : F1 l = some (.lst vs) := g1.sub _ _ upd_same
    exact f v H1 (cutH F1 l) d T1 (wt_cut hl w1 n2) (grow_cut hF g1) (noL_drop hl r1 n1) h1
  · exact ⟨ρ, T, t, F, k, w, h, f⟩
theorem t_view (i : Nat) {tc : dT} (he : PTd X e tc) : PTd X e (dViewT i tc) := by
  refine pt_imp he fun σ H Q h => ?_
  obtain ⟨ρ, T, t, F, k, w, h, f⟩ := h
  unfold dViewT at h
  split at h
  · rename_i xs e0
    obtain ⟨l, vs, hF, w'⟩ := w.frz e0
    refine ⟨_, T, t, _, _, w', h, fun b H1 F1 T1 w1 g1 h1 => ?_⟩
    obtain ⟨n2, h1⟩ := h1
    have hl : F1 l = some (.lst vs) := g1.sub _ _ upd_same
    exact f b H1 (cutH F1 l) T1 (wt_cut hl w1 n2) (grow_cut hF g1) h1
  · exact ⟨ρ, T, t, F, k, w, h, f⟩
/-- it will not be changed any more, if it is own -/
def sFrq (i : Nat) (f : dS) : dS := fun k ρ T => match ρ[i]? with | some (some (.own xs)) => f k (ρ.set i (some (.val (.lst xs)))) T | _ => f k ρ T
theorem s_frq (i : Nat) (h : PSd X st f) : PSd X st (sFrq i f) := by
  refine ps_imp h fun E σ H h => ?_
  obtain ⟨ρ, T, t, F0, H0, F, k, w, h, fe⟩ := h
  unfold sFrq at h
  split at h
  · rename_i xs e
    obtain ⟨F', sm, w'⟩ := w.frz e
    exact ⟨_, T, t, F0, H0, F', k, w', h, fe.to sm⟩
  · exact ⟨ρ, T, t, F0, H0, F, k, w, h, fe⟩
/-- x[e] = .. in an own list -/
def gOs (i : Nat) (fe : dE) : dG := fun d ρ T k => match ρ[i]? with | some (some (.own xs)) => fe ρ T fun j T1 => (match j with | .int j => (match ixN xs.length j with | some m => k (ρ.set i (some (.own (xs.set m d)))) T1 | none => False) | _ => False) | _ => False
/-! a def that hands back a list of its own -/
def OkN (P : Program) (w : World) (K : PySem.W.Frag) (mg : Str → Option Value) (base : Heap) (n : Nat) (x : Str) (ps : List Str) (sem : Sem) : Prop :=
  ∃ f fd, mg x = some (.ref f) ∧ PySem.W.keepIn K (.ref f) = true ∧ Binds K fd ps [] ∧ (∀ (s : Shared) (ws : List Value), K.In s.heap → ws.length = ps.length → BindsTo s fd ⟨[], ps.zip ws⟩ (ps.zip ws)) ∧ GFn P w K mg base CX0 n f fd ps (spO K ps.length sem) ∧ ∃ oc od osl, K.lookup f = some ⟨oc, od, .func fd, osl⟩
theorem fin_own {K : PySem.W.Frag} {t : Option Addr} {F H : Hp} {T : Tk} {k : KD} {Q : VK} (w : Wt K T t F H) (f : Fin K t F H k Q) : FinO K t F H k Q := by
  intro l lv H' F' xs T' w' g' hl hF' hH' r' q
  have nt : ∀ a, t = some a → a ≠ l := fun a ea z => by
    obtain ⟨_, us, hu, _⟩ := w.tank a ea
    rw [z, hl] at hu
    cases hu
  have sm : Same F' (upd F' l (.lst lv)) := same_upd hF'
  refine f (.ref l) H' (upd F' l (.lst lv)) (.lst xs) T' ⟨fun b u e => ?_, fun a ea => ?_⟩ ⟨g'.sub.trans sm, g'.keep, fun a o h n => ?_, g'.there⟩ (.lst upd_same (r'.mono sm)) q
  · by_cases hb : b = l
    · subst hb; rw [upd_same] at e; cases e; exact hH'
    · rw [upd_ne hb] at e; exact w'.sub b u e
  · obtain ⟨n1, us, hu, ru⟩ := w'.tank a ea
    exact ⟨by rw [upd_ne (nt a ea)]; exact n1, us, hu, ru.mono sm⟩
  · have ne : a ≠ l := fun z => by rw [z, hl] at h; cases h
    rw [upd_ne ne]
    exact g'.new a o h n
theorem OkN.ok {P : Program} {w : World} {K : PySem.W.Frag} {mg : Str → Option Value} {base : Heap} {n : Nat} {x : Str} {ps : List Str} {sem : Sem} (h : OkN P w K mg base n x ps sem) : Ok P w K mg base n x ps sem :=
  let ⟨f, fd, h1, h2, h3, h4, h5, h6⟩ := h
  ⟨f, fd, h1, h2, h3, h4, h5.imp (fun vs H Q E ⟨q1, F, t, T, as, k, a, b, c, d⟩ => ⟨q1, F, t, T, as, k, a, b, c, fin_own b d⟩), h6⟩
theorem OkN.mono {P : Program} {w : World} {K : PySem.W.Frag} {mg : Str → Option Value} {base : Heap} {m n : Nat} {x : Str} {ps : List Str} {sem : Sem} (h : OkN P w K mg base m x ps sem) (l : m ≤ n) : OkN P w K mg base n x ps sem :=
  let ⟨f, fd, h1, h2, h3, h4, h5, h6⟩ := h; ⟨f, fd, h1, h2, h3, h4, h5.mono l, h6⟩
variable {y : Str} {n m : Nat} {ps qs : List Str} {so : Sem} {q pos2 : Pos} {a b : Expr} {fa fb : dE}
/-- x = f(..), f's list x's own -/
def sOwnC (i m : Nat) (so : Sem) (fr : dA) : dS := fun k ρ T => fr ρ T fun as T1 => as.length = m ∧ so as T1 fun d T2 => match d with | .lst xs => k.nx (ρ.set i (some (.own xs))) T2 | _ => False
/-- x, y = a, f(..) with y's list its own -/
def sParC (i j m : Nat) (so : Sem) (fa : dE) (fr : dA) : dS := fun k ρ T => fa ρ T fun d T1 => fr ρ T1 fun as T2 => as.length = m ∧ so as T2 fun d2 T3 => match d2 with | .lst xs => k.nx ((ρ.set i (some (.val d))).set j (some (.own xs))) T3 | _ => False
/-- x, y, z = a, b, f(..) with z's list its own -/
def sPar3C (i j l m : Nat) (so : Sem) (fa fb : dE) (fr : dA) : dS := fun k ρ T => fa ρ T fun d T1 => fb ρ T1 fun d' T1 => fr ρ T1 fun as T2 => as.length = m ∧ so as T2 fun d2 T3 => match d2 with | .lst xs => k.nx (((ρ.set i (some (.val d))).set j (some (.val d'))).set l (some (.own xs))) T3 | _ => False
end
theorem noL_int {i : Int} : (D.int i).noL = True := by simp only [D.noL]
theorem noL_bl {i : Bool} : (D.bl i).noL = True := by simp only [D.noL]
theorem noL_str {i : Str} : (D.str i).noL = True := by simp only [D.noL]
theorem noL_non : D.non.noL = True := by simp only [D.noL]
theorem noL_tup {xs : List D} : (D.tup xs).noL = D.noLL xs := by simp only [D.noL]
theorem noLL_nil : D.noLL [] = True := by simp only [D.noLL]
theorem noLL_cons {x : D} {xs : List D} : D.noLL (x :: xs) = (x.noL ∧ D.noLL xs) := by simp only [D.noLL]
/-! unpacking of a tuple or a list -/
def gTL (n : Nat) (gs : dGs) : dG := fun d ρ T k => match d.it? with | some ds => ds.length = n ∧ gs ds ρ T k | none => False
theorem g_unp {X : Cx} {pos : Pos} {tgs : List Expr} {j : Nat} {gs : dGs} {n : Nat} (hc : X.calm = true) (h : PGs X tgs (tDGs X.K gs)) (hn : (assignEach tgs X.env).length = n := by rfl) (hst : (assignEach tgs X.env).findIdx? (·.1) = none := by rfl) : PGd X (.Tuple tgs j pos) (gTL n gs) := by
  have key : PG X (.Tuple tgs j pos) (fun v σ H Q => gTup X.K n (tDGs X.K gs) v σ H Q ∨ gUnl X.K n (tDGs X.K gs) v σ H Q) := ⟨fun pins s σ H v u Q I r q => q.elim (fun q => (pg_tup hc h hn hst).run pins s σ H v u Q I r q) (fun q => (pg_unl hc h hn hst).run pins s σ H v u Q I r q)⟩
  refine pg_imp key fun v σ H Q h => ?_
  obtain ⟨ρ, T, t, F0, H0, F, d, k, w, r, h, f⟩ := h
  cases d <;> first | exact h.elim | skip
  · obtain ⟨a, vs, rfl, h1, h2⟩ := rep_tup r
    exact .inl ⟨a, vs, rfl, same_t w.w.wt.sub h1, by rw [← h2.len]; exact h.1, ρ, T, t, F0, H0, F, _, k, w, h2, h.2, f⟩
  · obtain ⟨a, vs, rfl, h1, h2⟩ := rep_lst r
    exact .inr ⟨a, vs, rfl, .of (w.w.wt.sub _ _ h1), by rw [← h2.len]; exact h.1, ρ, T, t, F0, H0, F, _, k, w, h2, h.2, f⟩
end L2.G

namespace L2.G
open PySem PySem.Spec PyProof.Rows
/-! zip of two lists or of two tuples -/
def zip2 : List SV → Option (List D × List D)
  | [.val (.lst xs), .val (.lst ys)] => some (xs, ys)
  | [.val (.tup xs), .val (.tup ys)] => some (xs, ys)
  | _ => none
theorem zip2_lst {xs ys : List D} : zip2 [.val (.lst xs), .val (.lst ys)] = some (xs, ys) := rfl
theorem zip2_tup {xs ys : List D} : zip2 [.val (.tup xs), .val (.tup ys)] = some (xs, ys) := rfl
theorem zipD_nil {ys : List D} : zipD [] ys = [] := rfl
theorem zipD_cons {x y : D} {xs ys : List D} : zipD (x :: xs) (y :: ys) = .tup [x, y] :: zipD xs ys := rfl
def iZA (fr : dA) : dI := fun ρ T k => fr ρ T fun as T1 => match zip2 as with | some p => (zipD p.1 p.2).length ≤ 1000000 ∧ k (zipD p.1 p.2) T1 | none => False
end L2.G

namespace L2.G
open PySem PySem.Spec PyProof.Rows
/-! walking at the head: what stands behind is left as it is until the head is told -/
/-- an argument whose type names what is to be left as it is -/
structure Fz {α : Type} (a : α) : Type where
def callS (s : Sem) (as : List SV) (T : Tk) (k : KD) (fz : Fz k := ⟨⟩) : Prop := s as T k
theorem callS_eq {s : Sem} {as : List SV} {T : Tk} {k : KD} : callS s as T k = s as T k := propext Iff.rfl
def iteB (c : Bool) (p q : Prop) (fz : Fz (p, q) := ⟨⟩) : Prop := if c = true then p else q
theorem iteB_t {p q : Prop} : iteB true p q = p := propext Iff.rfl
theorem iteB_f {p q : Prop} : iteB false p q = q := propext Iff.rfl
theorem iteB_of {c : Bool} {p q : Prop} (h1 : c = true → p) (h2 : c = false → q) : iteB c p q := by cases c; exact h2 rfl; exact h1 rfl
theorem iteB_p {c : Bool} {p q : Prop} (h : c = true) (h1 : p) : iteB c p q := by rw [h]; exact h1
theorem iteB_n {c : Bool} {p q : Prop} (h : c = false) (h1 : q) : iteB c p q := by rw [h]; exact h1
theorem iteB_not {c : Bool} {p q : Prop} : iteB (!c) p q = iteB c q p := by cases c <;> rfl
theorem iteB_tt {p : Prop} {c : Bool} : iteB c p p = p := by cases c <;> rfl
def setE (ρ : En) (F : En → Prop) (fz : Fz F := ⟨⟩) : Prop := F ρ
theorem setE_go {ρ : En} {F : En → Prop} : setE ρ F = F ρ := propext Iff.rfl
def pdK (r : PD) (k : D → Prop) (fz : Fz k := ⟨⟩) : Prop := match r with | some p => p.1 ∧ k p.2 | none => False
theorem pdK_t {d : D} {k : D → Prop} : pdK (some (True, d)) k = k d := propext (and_iff_right trivial)
theorem pdK_c {P : Prop} {d : D} {k : D → Prop} : pdK (some (P, d)) k = (P ∧ k d) := propext Iff.rfl
theorem oF_pd {f : D → D → PD} {x y : D} {k : D → Prop} : oF f x y k = pdK (f x y) k := propext Iff.rfl
def varK (s : Option (Option SV)) (T : Tk) (k : KD) (fz : Fz k := ⟨⟩) : Prop := match s with | some (some (.val d)) => k d T | _ => False
theorem varK_go {d : D} {T : Tk} {k : KD} : varK (some (some (.val d))) T k = k d T := propext Iff.rfl
section
variable {ρ : En} {T S : Tk} {k : KD} {d e : D} {o : Op2} {fa fb fe : dE} {ta tb : dT} {fr : dA} {i j l n m : Nat} {as : List SV} {xs ys : List D} {K : dEnds} {f g : dS} {tg : dG} {fi : dI}
theorem h_var : dVar i ρ T k = varK ρ[i]? T k := propext Iff.rfl
theorem h_c : dC d ρ T k = k d T := propext Iff.rfl
theorem h_op : dOp o fa fb ρ T k = fa ρ T fun x T1 => fb ρ T1 fun y T2 => o x y fun d => k d T2 := propext Iff.rfl
/-- keeps a lambda from being taken for its function -/
def wr (p : Prop) : Prop := p
def negK (x : D) (T : Tk) (k : KD) (fz : Fz k := ⟨⟩) : Prop := match x with | .int i => k (.int (-i)) T | _ => False
theorem negK_go {i : Int} : negK (.int i) T k = k (.int (-i)) T := propext Iff.rfl
theorem h_neg : dNeg fa ρ T k = fa ρ T fun x T1 => negK x T1 k := propext Iff.rfl
def bolK (b : Bool) (T : Tk) (k : Bool → Tk → Prop) (fz : Fz k := ⟨⟩) : Prop := k b T
theorem bolK_go {b : Bool} {k : Bool → Tk → Prop} : bolK b T k = k b T := propext Iff.rfl
theorem h_isN : dIsN fa ρ T k = fa ρ T fun x T1 => bolK x.isNon T1 fun b T => k (.bl b) T := propext Iff.rfl
theorem h_notN : dNotN fa ρ T k = fa ρ T fun x T1 => bolK (!x.isNon) T1 fun b T => k (.bl b) T := propext Iff.rfl
def tstK (x : D) (T : Tk) (k : Bool → Tk → Prop) (fz : Fz k := ⟨⟩) : Prop := match x with | .bl c => k c T | _ => False
theorem tstK_go {b : Bool} {k : Bool → Tk → Prop} : tstK (.bl b) T k = k b T := propext Iff.rfl
theorem h_tst {k : Bool → Tk → Prop} : dTst fa ρ T k = fa ρ T fun x T1 => tstK x T1 k := propext Iff.rfl
def andK (c : Bool) (T : Tk) (F : (Bool → Tk → Prop) → Prop) (k : Bool → Tk → Prop) (fz : Fz k := ⟨⟩) : Prop := if c = true then F k else k false T
theorem andK_t {F : (Bool → Tk → Prop) → Prop} {k : Bool → Tk → Prop} : andK true T (fun k' => wr (F k')) k = F k := propext Iff.rfl
theorem andK_f {F : (Bool → Tk → Prop) → Prop} {k : Bool → Tk → Prop} : andK false T F k = k false T := propext Iff.rfl
theorem andK_p {c c2 : Bool} {k : Bool → Tk → Prop} : andK c T (fun k' => wr (k' c2 T)) k = k (c && c2) T := by cases c <;> rfl
theorem andK_q {c c2 : Bool} {P : Prop} {k : Bool → Tk → Prop} : andK c T (fun k' => wr (P ∧ k' c2 T)) k = ((c = true → P) ∧ k (c && c2) T) := by cases c <;> simp [andK, wr]
def orK (c : Bool) (T : Tk) (F : (Bool → Tk → Prop) → Prop) (k : Bool → Tk → Prop) (fz : Fz k := ⟨⟩) : Prop := if c = true then k true T else F k
theorem orK_t {F : (Bool → Tk → Prop) → Prop} {k : Bool → Tk → Prop} : orK true T F k = k true T := propext Iff.rfl
theorem orK_f {F : (Bool → Tk → Prop) → Prop} {k : Bool → Tk → Prop} : orK false T (fun k' => wr (F k')) k = F k := propext Iff.rfl
theorem orK_p {c c2 : Bool} {k : Bool → Tk → Prop} : orK c T (fun k' => wr (k' c2 T)) k = k (c || c2) T := by cases c <;> rfl
theorem orK_q {c c2 : Bool} {P : Prop} {k : Bool → Tk → Prop} : orK c T (fun k' => wr (P ∧ k' c2 T)) k = ((c = false → P) ∧ k (c || c2) T) := by cases c <;> simp [orK, wr]
theorem h_and {k : Bool → Tk → Prop} : dAnd ta tb ρ T k = ta ρ T fun c T1 => andK c T1 (fun k' => wr (tb ρ T1 k')) k := propext Iff.rfl
theorem h_or {k : Bool → Tk → Prop} : dOr ta tb ρ T k = ta ρ T fun c T1 => orK c T1 (fun k' => wr (tb ρ T1 k')) k := propext Iff.rfl
theorem h_not {k : Bool → Tk → Prop} : dNot ta ρ T k = ta ρ T fun c T1 => bolK (!c) T1 k := propext Iff.rfl

def andVK (x : D) (T : Tk) (F : KD → Prop) (k : KD) (fz : Fz k := ⟨⟩) : Prop := match x with | .bl c => if c = true then F k else k (.bl false) T | _ => False
theorem andVK_t {F : KD → Prop} : andVK (.bl true) T (fun k' => wr (F k')) k = F k := propext Iff.rfl
theorem andVK_f {F : KD → Prop} : andVK (.bl false) T F k = k (.bl false) T := propext Iff.rfl
theorem andVK_p {c c2 : Bool} : andVK (.bl c) T (fun k' => wr (k' (.bl c2) T)) k = k (.bl (c && c2)) T := by cases c <;> rfl
theorem andVK_q {c c2 : Bool} {P : Prop} : andVK (.bl c) T (fun k' => wr (P ∧ k' (.bl c2) T)) k = ((c = true → P) ∧ k (.bl (c && c2)) T) := by cases c <;> simp [andVK, wr]
def orVK (x : D) (T : Tk) (F : KD → Prop) (k : KD) (fz : Fz k := ⟨⟩) : Prop := match x with | .bl c => if c = true then k (.bl true) T else F k | _ => False
theorem orVK_t {F : KD → Prop} : orVK (.bl true) T F k = k (.bl true) T := propext Iff.rfl
theorem orVK_f {F : KD → Prop} : orVK (.bl false) T (fun k' => wr (F k')) k = F k := propext Iff.rfl
theorem orVK_p {c c2 : Bool} : orVK (.bl c) T (fun k' => wr (k' (.bl c2) T)) k = k (.bl (c || c2)) T := by cases c <;> rfl
theorem orVK_q {c c2 : Bool} {P : Prop} : orVK (.bl c) T (fun k' => wr (P ∧ k' (.bl c2) T)) k = ((c = false → P) ∧ k (.bl (c || c2)) T) := by cases c <;> simp [orVK, wr]
theorem h_andV : dAndV fa fb ρ T k = fa ρ T fun x T1 => andVK x T1 (fun k' => wr (fb ρ T1 k')) k := propext Iff.rfl
theorem h_orV : dOrV fa fb ρ T k = fa ρ T fun x T1 => orVK x T1 (fun k' => wr (fb ρ T1 k')) k := propext Iff.rfl
def notVK (x : D) (T : Tk) (k : KD) (fz : Fz k := ⟨⟩) : Prop := match x with | .bl c => k (.bl (!c)) T | _ => False
theorem notVK_go {b : Bool} : notVK (.bl b) T k = bolK (!b) T fun b T => k (.bl b) T := propext Iff.rfl
theorem h_notV : dNotV fa ρ T k = fa ρ T fun x T1 => notVK x T1 k := propext Iff.rfl
theorem h_if : dIf ta fa fb ρ T k = ta ρ T fun c T1 => iteB c (fa ρ T1 k) (fb ρ T1 k) := propext Iff.rfl
/-! arguments -/
theorem h_anil {k : List SV → Tk → Prop} : aNil ρ T k = k [] T := propext Iff.rfl
theorem h_acons {k : List SV → Tk → Prop} : aCons fe fr ρ T k = fe ρ T fun d T1 => fr ρ T1 fun as T2 => k (.val d :: as) T2 := propext Iff.rfl
def tnkK (s : Option (Option SV)) (P : Prop) (fz : Fz P := ⟨⟩) : Prop := (match s with | some (some .tank) => True | _ => False) ∧ P
theorem tnkK_go {P : Prop} : tnkK (some (some .tank)) P = P := propext (and_iff_right trivial)
theorem h_atank {k : List SV → Tk → Prop} : aTank i fr ρ T k = tnkK ρ[i]? (fr ρ T fun as T2 => k (.tank :: as) T2) := propext Iff.rfl
def sqK (o : Option (List D)) (k : List D → Prop) (fz : Fz k := ⟨⟩) : Prop := match o with | some xs => k xs | none => False
theorem sqK_go {k : List D → Prop} : sqK (some xs) k = k xs := propext Iff.rfl
theorem h_astar {k : List SV → Tk → Prop} : aStar fe fr ρ T k = fe ρ T fun d T1 => sqK d.it? fun xs => fr ρ T1 fun as T2 => k (xs.map SV.val ++ as) T2 := propext Iff.rfl
theorem h_tup : dTup fr ρ T k = fr ρ T fun as T1 => sqK (vals? as) fun ds => ds.length ≤ 1000000 ∧ k (.tup ds) T1 := propext Iff.rfl
theorem h_lst : dLst fr ρ T k = fr ρ T fun as T1 => sqK (vals? as) fun ds => ds.length ≤ 1000000 ∧ k (.lst ds) T1 := propext Iff.rfl
theorem vals_val : vals? (.val d :: as) = (vals? as).map (d :: ·) := rfl
theorem vals_nil : vals? [] = some [] := rfl
def callN (n : Nat) (s : Sem) (as : List SV) (T : Tk) (k : KD) (fz : Fz k := ⟨⟩) : Prop := as.length = n ∧ s as T k
theorem callN_go {n : Nat} {s : Sem} : callN n s as T k = (as.length = n ∧ callS s as T k) := propext Iff.rfl
theorem h_call {s : Sem} : dCall n s fr ρ T k = fr ρ T fun as T1 => callN n s as T1 k := propext Iff.rfl
def lstK (d : D) (k : List D → Prop) (fz : Fz k := ⟨⟩) : Prop := match d with | .lst xs => k xs | _ => False
theorem lstK_go {k : List D → Prop} : lstK (.lst xs) k = k xs := propext Iff.rfl
theorem h_callT {s so : Sem} : dCallT n s so fr ρ T k = fr ρ T fun as T1 => callN n so as T1 fun d T2 => lstK d fun xs => callS s [.tank] xs fun r _ => k r T2 := propext Iff.rfl
theorem h_blt {f : List D → PD} : dBlt (oG f) fr ρ T k = fr ρ T fun as T1 => sqK (vals? as) fun ds => pdK (f ds) fun d => k d T1 := propext Iff.rfl
def opK (o : Option D) (k : D → Prop) (fz : Fz k := ⟨⟩) : Prop := match o with | some d => k d | none => False
theorem opK_go {k : D → Prop} : opK (some d) k = k d := propext Iff.rfl
def intK (d : D) (k : Int → Prop) (fz : Fz k := ⟨⟩) : Prop := match d with | .int i => k i | _ => False
theorem intK_go {i : Int} {k : Int → Prop} : intK (.int i) k = k i := propext Iff.rfl
theorem h_psome {k : Option Int → Tk → Prop} : pSome fe ρ T k = fe ρ T fun d T1 => intK d fun i => k (some i) T1 := propext Iff.rfl
theorem h_slq {lo hi : dP} : dSlQ fe lo hi ρ T k = fe ρ T fun x T1 => lo ρ T1 fun l T2 => hi ρ T2 fun h T3 => opK (x.cut? l h) fun d => k d T3 := propext Iff.rfl
def blqK (o : Option Bool) (T : Tk) (k : KD) (fz : Fz k := ⟨⟩) : Prop := match o with | some r => k (.bl r) T | none => False
theorem blqK_go {b : Bool} : blqK (some b) T k = k (.bl b) T := propext Iff.rfl
theorem h_isi {t : Ty} : dIsi t fe ρ T k = fe ρ T fun d T1 => blqK (isTy t d) T1 k := propext Iff.rfl
/-! walks -/
theorem h_iQ {k : List D → Tk → Prop} : iQ fe ρ T k = fe ρ T fun d T1 => sqK d.it? fun xs => xs.length ≤ 1000000 ∧ k xs T1 := propext Iff.rfl
def r1K (as : List SV) (T : Tk) (k : List D → Tk → Prop) (fz : Fz k := ⟨⟩) : Prop := match as with | [.val (.int j)] => (j ≤ 1000000 ∧ -(2 ^ 62) ≤ j) ∧ k (intsL 0 j.toNat) T | _ => False
theorem r1K_go {j : Int} {k : List D → Tk → Prop} : r1K [.val (.int j)] T k = ((j ≤ 1000000 ∧ -(2 ^ 62) ≤ j) ∧ k (intsL 0 j.toNat) T) := propext Iff.rfl
theorem h_iR1 {k : List D → Tk → Prop} : iR1 fr ρ T k = fr ρ T fun as T1 => r1K as T1 k := by
  unfold iR1; congr 1; funext as T1; unfold r1K; split <;> simp only [and_assoc]
def r2K (as : List SV) (T : Tk) (k : List D → Tk → Prop) (fz : Fz k := ⟨⟩) : Prop := match as with | [.val (.int i), .val (.int j)] => (j - i ≤ 1000000 ∧ -(2 ^ 61) ≤ i ∧ i < 2 ^ 61 ∧ -(2 ^ 61) ≤ j ∧ j < 2 ^ 61) ∧ k (intsL i (j - i).toNat) T | _ => False
theorem r2K_go {i j : Int} {k : List D → Tk → Prop} : r2K [.val (.int i), .val (.int j)] T k = ((j - i ≤ 1000000 ∧ -(2 ^ 61) ≤ i ∧ i < 2 ^ 61 ∧ -(2 ^ 61) ≤ j ∧ j < 2 ^ 61) ∧ k (intsL i (j - i).toNat) T) := propext Iff.rfl
theorem h_iR2 {k : List D → Tk → Prop} : iR2 fr ρ T k = fr ρ T fun as T1 => r2K as T1 k := propext Iff.rfl
def r3K (as : List SV) (T : Tk) (k : List D → Tk → Prop) (fz : Fz k := ⟨⟩) : Prop := match as with | [.val (.int i), .val (.int j), .val (.int c)] => (c = -1 ∧ i - j ≤ 1000000 ∧ -(2 ^ 61) ≤ i ∧ i < 2 ^ 61 ∧ -(2 ^ 61) ≤ j ∧ j < 2 ^ 61) ∧ k (downL i (i - j).toNat) T | _ => False
theorem r3K_go {i j c : Int} {k : List D → Tk → Prop} : r3K [.val (.int i), .val (.int j), .val (.int c)] T k = ((c = -1 ∧ i - j ≤ 1000000 ∧ -(2 ^ 61) ≤ i ∧ i < 2 ^ 61 ∧ -(2 ^ 61) ≤ j ∧ j < 2 ^ 61) ∧ k (downL i (i - j).toNat) T) := propext Iff.rfl
theorem h_iR3 {k : List D → Tk → Prop} : iR3 fr ρ T k = fr ρ T fun as T1 => r3K as T1 k := propext Iff.rfl
def zpK (o : Option (List D × List D)) (T : Tk) (k : List D → Tk → Prop) (fz : Fz k := ⟨⟩) : Prop := match o with | some p => (zipD p.1 p.2).length ≤ 1000000 ∧ k (zipD p.1 p.2) T | none => False
theorem zpK_go {k : List D → Tk → Prop} : zpK (some (xs, ys)) T k = ((zipD xs ys).length ≤ 1000000 ∧ k (zipD xs ys) T) := propext Iff.rfl
theorem h_iZA {k : List D → Tk → Prop} : iZA fr ρ T k = fr ρ T fun as T1 => zpK (zip2 as) T1 k := propext Iff.rfl
theorem h_iEn {k : List D → Tk → Prop} : iEn fe ρ T k = fe ρ T fun d T1 => sqK d.it? fun xs => xs.length ≤ 1000000 ∧ k (enD 0 xs) T1 := propext Iff.rfl
/-! statements -/
theorem h_seq : sSeq f g K ρ T = f { K with nx := g K } ρ T := propext Iff.rfl
theorem h_ret : sRet fe K ρ T = fe ρ T K.rt := propext Iff.rfl
theorem h_expr : sExpr fe K ρ T = fe ρ T fun _ T1 => K.nx ρ T1 := propext Iff.rfl
theorem h_sif : sIf ta f g K ρ T = ta ρ T fun c T1 => iteB c (f K ρ T1) (g K ρ T1) := propext Iff.rfl
theorem h_asg : sAsg fe tg K ρ T = fe ρ T fun d T1 => tg d ρ T1 K.nx := propext Iff.rfl
theorem h_gN {k : En → Tk → Prop} : gN i d ρ T k = setE (ρ.set i (some (.val d))) fun ρ => k ρ T := propext Iff.rfl
theorem h_gsnil {k : En → Tk → Prop} : gsNil [] ρ T k = k ρ T := propext (and_iff_right rfl)
theorem h_gscons {gs : dGs} {k : En → Tk → Prop} : gsCons tg gs (d :: xs) ρ T k = tg d ρ T fun ρ' T' => gs xs ρ' T' k := propext Iff.rfl
theorem h_gTL {gs : dGs} {k : En → Tk → Prop} : gTL n gs d ρ T k = sqK d.it? fun ds => ds.length = n ∧ gs ds ρ T k := propext Iff.rfl
theorem h_gT {gs : dGs} {k : En → Tk → Prop} : gT n gs (.tup xs) ρ T k = (xs.length = n ∧ gs xs ρ T k) := propext Iff.rfl
def parK (i j : Nat) (as : List SV) (ρ : En) (T : Tk) (k : En → Tk → Prop) (fz : Fz k := ⟨⟩) : Prop := match as with | [.val d, .val e] => k ((ρ.set i (some (.val d))).set j (some (.val e))) T | _ => False
theorem parK_go {k : En → Tk → Prop} : parK i j [.val d, .val e] ρ T k = setE ((ρ.set i (some (.val d))).set j (some (.val e))) fun ρ => k ρ T := propext Iff.rfl
theorem h_par : sPar i j fr K ρ T = fr ρ T fun as T1 => parK i j as ρ T1 K.nx := propext Iff.rfl
def parK3 (i j l : Nat) (as : List SV) (ρ : En) (T : Tk) (k : En → Tk → Prop) (fz : Fz k := ⟨⟩) : Prop := match as with | [.val d, .val e, .val f] => k (((ρ.set i (some (.val d))).set j (some (.val e))).set l (some (.val f))) T | _ => False
theorem parK3_go {c : D} {k : En → Tk → Prop} : parK3 i j l [.val d, .val e, .val c] ρ T k = setE (((ρ.set i (some (.val d))).set j (some (.val e))).set l (some (.val c))) fun ρ => k ρ T := propext Iff.rfl
theorem h_par3 : sPar3 i j l fr K ρ T = fr ρ T fun as T1 => parK3 i j l as ρ T1 K.nx := propext Iff.rfl
theorem h_parO : sParO i j fa fr K ρ T = fa ρ T fun d T1 => fr ρ T1 fun as T2 => sqK (vals? as) fun ds => ds.length ≤ 1000000 ∧ setE ((ρ.set i (some (.val d))).set j (some (.own ds))) fun ρ => K.nx ρ T2 := propext Iff.rfl
theorem h_parC {so : Sem} : sParC i j m so fa fr K ρ T = fa ρ T fun d T1 => fr ρ T1 fun as T2 => callN m so as T2 fun d2 T3 => lstK d2 fun xs => setE ((ρ.set i (some (.val d))).set j (some (.own xs))) fun ρ => K.nx ρ T3 := propext Iff.rfl
theorem h_par3C {so : Sem} : sPar3C i j l m so fa fb fr K ρ T = fa ρ T fun d T1 => fb ρ T1 fun d' T1 => fr ρ T1 fun as T2 => callN m so as T2 fun d2 T3 => lstK d2 fun xs => setE (((ρ.set i (some (.val d))).set j (some (.val d'))).set l (some (.own xs))) fun ρ => K.nx ρ T3 := propext Iff.rfl
theorem h_own : sOwn i fr K ρ T = fr ρ T fun as T1 => sqK (vals? as) fun ds => ds.length ≤ 1000000 ∧ setE (ρ.set i (some (.own ds))) fun ρ => K.nx ρ T1 := propext Iff.rfl
theorem h_ownC {so : Sem} : sOwnC i m so fr K ρ T = fr ρ T fun as T1 => callN m so as T1 fun d T2 => lstK d fun xs => setE (ρ.set i (some (.own xs))) fun ρ => K.nx ρ T2 := propext Iff.rfl
def ownK (s : Option (Option SV)) (k : List D → Prop) (e : Prop) (fz : Fz (k, e) := ⟨⟩) : Prop := match s with | some (some (.own xs)) => k xs | _ => e
theorem ownK_o {k : List D → Prop} {e : Prop} : ownK (some (some (.own xs))) k e = k xs := propext Iff.rfl
theorem ownK_v {k : List D → Prop} {e : Prop} : ownK (some (some (.val d))) k e = e := propext Iff.rfl
theorem ownK_n {k : List D → Prop} {e : Prop} : ownK (some none) k e = e := propext Iff.rfl
theorem h_frz : sFrz i f K ρ T = ownK ρ[i]? (fun xs => setE (ρ.set i (some (.val (.lst xs)))) fun ρ => f K ρ T) False := propext Iff.rfl
theorem h_frq : sFrq i f K ρ T = ownK ρ[i]? (fun xs => setE (ρ.set i (some (.val (.lst xs)))) fun ρ => f K ρ T) (f K ρ T) := propext Iff.rfl
theorem h_app : sApp i fe K ρ T = ownK ρ[i]? (fun xs => fe ρ T fun d T1 => xs.length < 1000000 ∧ setE (ρ.set i (some (.own (xs ++ [d])))) fun ρ => K.nx ρ T1) False := propext Iff.rfl
theorem h_view : dView i fe ρ T k = ownK ρ[i]? (fun xs => setE (ρ.set i (some (.val (.lst xs)))) fun ρ => fe ρ T fun d T1 => d.noL ∧ D.noLL T1 ∧ k d T1) (fe ρ T k) := propext Iff.rfl
theorem h_viewT {k : Bool → Tk → Prop} : dViewT i ta ρ T k = ownK ρ[i]? (fun xs => setE (ρ.set i (some (.val (.lst xs)))) fun ρ => ta ρ T fun d T1 => D.noLL T1 ∧ k d T1) (ta ρ T k) := propext Iff.rfl
def natK (o : Option Nat) (k : Nat → Prop) (fz : Fz k := ⟨⟩) : Prop := match o with | some m => k m | none => False
theorem natK_go {k : Nat → Prop} : natK (some n) k = k n := propext Iff.rfl
theorem h_gOs {k : En → Tk → Prop} : gOs i fe d ρ T k = ownK ρ[i]? (fun xs => fe ρ T fun j T1 => intK j fun j => natK (ixN xs.length j) fun m => setE (ρ.set i (some (.own (xs.set m d)))) fun ρ => k ρ T1) False := propext Iff.rfl
/-! loops -/
def forK (g : dG) (f : dS) (k : dEnds) (xs : List D) (ρ : En) (T : Tk) (fz : Fz (g, f, k) := ⟨⟩) : Prop := forL g f k xs ρ T
theorem forK_nil : forK tg f K [] ρ T = K.nx ρ T := propext Iff.rfl
theorem forK_cons : forK tg f K (d :: xs) ρ T = tg d ρ T fun ρ1 T1 => f { nx := fun ρ T => forK tg f K xs ρ T, rt := K.rt, bk := K.nx, ct := fun ρ T => forK tg f K xs ρ T } ρ1 T1 := propext Iff.rfl
theorem h_for : sForI fi tg f K ρ T = fi ρ T fun xs T1 => forK tg f K xs ρ T1 := propext Iff.rfl
def lcK (ρ : En) (c : dC1) (tt : dT) (el : dE) (k : List D → Tk → Prop) (xs acc : List D) (T : Tk) (fz : Fz (c, tt, el, k) := ⟨⟩) : Prop := lcD ρ c tt el k xs acc T
def enK (o : Option En) (k : En → Prop) (fz : Fz k := ⟨⟩) : Prop := match o with | some ρ => k ρ | none => False
theorem enK_go {k : En → Prop} : enK (some ρ) k = k ρ := propext Iff.rfl
variable {c : dC1} {el : dE} {kk : List D → Tk → Prop}
theorem lcK_nil : lcK ρ c ta el kk [] xs T = kk xs T := propext Iff.rfl
theorem lcK_cons : lcK ρ c ta el kk (d :: ys) xs T = enK (c d ρ) fun ρ1 => ta ρ1 T fun b T1 => iteB b (el ρ1 T1 fun y T2 => lcK ρ c ta el kk ys (xs ++ [y]) T2) (lcK ρ c ta el kk ys xs T1) := propext Iff.rfl
theorem h_lc {vs : List Nat} : dLc vs fi c ta el ρ T k = fi ρ T fun xs T1 => setE (wipeD ρ vs) fun ρ => lcK ρ c ta el (fun acc T2 => k (.lst acc) T2) xs [] T1 := propext Iff.rfl
theorem h_cN : cN i d ρ = some (ρ.set i (some (.val d))) := rfl
theorem h_cT {is : List Nat} : cT is (.tup xs) ρ = setAll is xs ρ := rfl
theorem h_yes {k : Bool → Tk → Prop} : dYes ρ T k = k true T := propext Iff.rfl
theorem setAll_nil : setAll [] [] ρ = some ρ := rfl
theorem setAll_cons {is : List Nat} : setAll (i :: is) (d :: xs) ρ = setAll is xs (ρ.set i (some (.val d))) := rfl
theorem wipe_nil : wipeD ρ [] = ρ := rfl
theorem wipe_cons {vs : List Nat} : wipeD ρ (i :: vs) = (wipeD ρ vs).set i none := rfl
end
/-! == of data without deep nests -/
mutual
def okN : Nat → D → Prop
  | _, .non => True | _, .bl _ => True | _, .int _ => True | _, .str x => PyData.strOk x = true
  | n, .tup xs => 0 < n ∧ okL (n - 1) xs | n, .lst xs => 0 < n ∧ okL (n - 1) xs | _, .obj _ _ _ => False | _, .ref _ => False | _, .scr _ => False | _, .dct _ _ => False
def okL : Nat → List D → Prop
  | _, [] => True
  | n, x :: r => okN n x ∧ okL n r
end
mutual
theorem okN_ok : ∀ {n : Nat} {d : D}, okN n d → d.isPy = true ∧ d.py.canLay0 = true ∧ d.py.depth ≤ n
  | n, .non, _ => ⟨rfl, rfl, Nat.zero_le _⟩
  | n, .bl _, _ => ⟨rfl, rfl, Nat.zero_le _⟩
  | n, .int _, _ => ⟨rfl, rfl, Nat.zero_le _⟩
  | n, .str x, h => by
    simp only [okN] at h
    exact ⟨rfl, by simp only [D.py, PyData.canLay0]; exact h, by simp only [D.py, PyData.depth]; exact Nat.zero_le _⟩
  | n, .tup xs, h => by
    simp only [okN] at h
    obtain ⟨h1, h2, h3⟩ := okL_ok h.2
    refine ⟨by simpa only [D.isPy] using h1, by simpa only [D.py, PyData.canLay0] using h2, ?_⟩
    simp only [D.py, PyData.depth]
    omega
  | n, .lst xs, h => by
    simp only [okN] at h
    obtain ⟨h1, h2, h3⟩ := okL_ok h.2
    refine ⟨by simpa only [D.isPy] using h1, by simpa only [D.py, PyData.canLay0] using h2, ?_⟩
    simp only [D.py, PyData.depth]
    omega
  | n, .obj _ _ _, h => by simp only [okN] at h
  | n, .ref _, h => by simp only [okN] at h
  | n, .scr _, h => by simp only [okN] at h
  | n, .dct _ _, h => by simp only [okN] at h
theorem okL_ok : ∀ {n : Nat} {xs : List D}, okL n xs → D.isPyL xs = true ∧ PyData.canLayAll0 (D.pyL xs) = true ∧ PyData.depthAll (D.pyL xs) ≤ n
  | n, [], _ => ⟨rfl, rfl, Nat.zero_le _⟩
  | n, x :: r, h => by
    simp only [okL] at h
    obtain ⟨a1, a2, a3⟩ := okN_ok h.1
    obtain ⟨b1, b2, b3⟩ := okL_ok h.2
    refine ⟨by simp only [D.isPyL, a1, b1, Bool.and_self], by simp only [D.pyL, PyData.canLayAll0, a2, b2, Bool.and_self], ?_⟩
    simp only [D.pyL, PyData.depthAll]
    omega
end
theorem okN_eqOk {d : D} (h : okN 60 d) : d.eqOk := by
  obtain ⟨h1, h2, h3⟩ := okN_ok h
  refine ⟨h1, ?_⟩
  unfold SeqAt.shaped
  simp only [h2, Bool.true_and, decide_eq_true_eq]
  omega
theorem okN_t {d : D} (h : okN 60 d) : d.eqOk = True := eq_true (okN_eqOk h)
section
variable {n : Nat} {d : D} {xs : List D} {i : Int} {b : Bool}
theorem okN_non : okN n .non = True := by simp only [okN]
theorem okN_int : okN n (.int i) = True := by simp only [okN]
theorem okN_bl : okN n (.bl b) = True := by simp only [okN]
theorem okN_tup : okN n (.tup xs) = (0 < n ∧ okL (n - 1) xs) := by simp only [okN]
theorem okN_lst : okN n (.lst xs) = (0 < n ∧ okL (n - 1) xs) := by simp only [okN]
theorem okL_nil : okL n [] = True := by simp only [okL]
theorem okL_cons : okL n (d :: xs) = (okN n d ∧ okL n xs) := by simp only [okL]
end
/-! == of unlike kinds -/
section
variable {i j : Int} {b : Bool} {s : Str} {xs ys : List D}
theorem fEq_it : fEq (.int i) (.tup xs) = some ((D.int i).eqOk ∧ (D.tup xs).eqOk, .bl (eqD (.int i) (.tup xs))) := rfl
theorem fEq_ti : fEq (.tup xs) (.int i) = some ((D.tup xs).eqOk ∧ (D.int i).eqOk, .bl (eqD (.tup xs) (.int i))) := rfl
theorem fEq_in : fEq (.int i) .non = some ((D.int i).eqOk ∧ D.non.eqOk, .bl (eqD (.int i) .non)) := rfl
theorem fEq_ni : fEq .non (.int i) = some (D.non.eqOk ∧ (D.int i).eqOk, .bl (eqD .non (.int i))) := rfl
theorem fNe_in : fNe (.int i) .non = some ((D.int i).eqOk ∧ D.non.eqOk, .bl (!eqD (.int i) .non)) := rfl
theorem fNe_ni : fNe .non (.int i) = some (D.non.eqOk ∧ (D.int i).eqOk, .bl (!eqD .non (.int i))) := rfl
end
end L2.G

namespace L2.G
open PySem PySem.Spec PyProof.Rows

/-! is, is not of truth values -/
def bIs (a b : Bool) : Bool := decide (a = b)
theorem bIs_t {a : Bool} : bIs a true = a := by cases a <;> rfl
theorem bIs_f {a : Bool} : bIs a false = !a := by cases a <;> rfl
theorem bIs_s {a : Bool} : bIs a a = true := by cases a <;> rfl
def fIs : D → D → PD | .bl i, .bl j => some (True, .bl (bIs i j)) | _, _ => none
def fIsn : D → D → PD | .bl i, .bl j => some (True, .bl (!bIs i j)) | _, _ => none
theorem fIs_bl {i j : Bool} : fIs (.bl i) (.bl j) = some (True, .bl (bIs i j)) := rfl
theorem fIsn_bl {i j : Bool} : fIsn (.bl i) (.bl j) = some (True, .bl (!bIs i j)) := rfl
section
variable {X : Cx} {a b e : Expr} {fa fb fe : dE} {pos : Pos}
end

/-! xs[::-1] of lists and tuples -/
section
variable {prog : Program} {w : World} {A : Around} {E : Value → Shared → Prop} {s : Shared}
end

section
variable {X : Cx} {e : Expr} {fe : dE}
def D.rev? : D → Option D | .lst xs => some (.lst xs.reverse) | .scr xs => some (.lst xs.reverse) | .tup xs => some (.tup xs.reverse) | _ => none
theorem rev_lst {xs : List D} : D.rev? (.lst xs) = some (.lst xs.reverse) := rfl
theorem rev_scr {xs : List D} : D.rev? (.scr xs) = some (.lst xs.reverse) := rfl
theorem rev_tup {xs : List D} : D.rev? (.tup xs) = some (.tup xs.reverse) := rfl
def dRev (fe : dE) : dE := fun ρ T k => fe ρ T fun x T1 => match x.rev? with | some d => k d T1 | none => False
theorem h_rev {ρ : En} {T : Tk} {k : KD} : dRev fe ρ T k = fe ρ T fun x T1 => opK x.rev? fun d => k d T1 := propext Iff.rfl
end

/-! x = [.. for ..], x a list that this def will change -/
section
variable {X : Cx} {tg : Expr} {pos : Pos}
def sLcO (i : Nat) (vs : List Nat) (fi : dI) (c : dC1) (tt : dT) (el : dE) : dS := fun k ρ T => fi ρ T fun xs T1 => lcD (wipeD ρ vs) c tt el (fun acc T2 => k.nx (ρ.set i (some (.own acc))) T2) xs [] T1
theorem h_lcO {i : Nat} {vs : List Nat} {fi : dI} {c : dC1} {ta : dT} {el : dE} {K : dEnds} {ρ : En} {T : Tk} : sLcO i vs fi c ta el K ρ T = fi ρ T fun xs T1 => setE (wipeD ρ vs) fun ρ' => lcK ρ' c ta el (fun acc T2 => setE (ρ.set i (some (.own acc))) fun ρ => K.nx ρ T2) xs [] T1 := propext Iff.rfl
end

/-! {} and {"x": e}: dicts that are only handed on -/
section
variable {X : Cx} {e : Expr} {fe : dE} {pos p1 : Pos} {j : Nat}
def dDct0 : dE := fun _ T k => k (.dct [] []) T
theorem h_dct0 {ρ : En} {T : Tk} {k : KD} : dDct0 ρ T k = k (.dct [] []) T := propext Iff.rfl
def dDct1 (x : Str) (fe : dE) : dE := fun ρ T k => fe ρ T fun d T1 => k (.dct [.inr x] [d]) T1
theorem h_dct1 {x : Str} {ρ : En} {T : Tk} {k : KD} : dDct1 x fe ρ T k = fe ρ T fun d T1 => k (.dct [.inr x] [d]) T1 := propext Iff.rfl
end
theorem isTy_dct {T : Ty} {ks : List Key} {ds : List D} : isTy T (.dct ks ds) = some false := by cases T <;> rfl
theorem isNon_dct {ks : List Key} {ds : List D} : (D.dct ks ds).isNon = false := rfl
end L2.G

namespace L2.G
open PySem PySem.Spec PyProof.Rows
/-! the greatest of a list of ints -/
def mxL (n : Int) (r : List Int) : Int := r.foldl (fun a b => if b > a then b else a) n
def mxR : Option (List Int) → PD | some (n :: r) => some (True, .int (mxL n r)) | _ => none
def fMaxL : List D → PD | [.lst xs] => mxR (nums? xs) | _ => none
theorem fMaxL_lst {xs : List D} : fMaxL [.lst xs] = mxR (nums? xs) := rfl
theorem mxR_some {n : Int} {r : List Int} : mxR (some (n :: r)) = some (True, .int (mxL n r)) := rfl
section
variable {X : Cx} {a b e : Expr} {fa fb fe : dE} {fr : dA} {p pos : Pos} {n : Nat} {es : List Expr} {tg : Expr}
end
end L2.G

namespace L2.G
open PySem PySem.Spec PyProof.Rows
/-! arguments by name, in another order -/
def pmC {α : Type} (o : Option α) (r : List α) : List α := match o with | some x => x :: r | none => r
def permL {α : Type} : List Nat → List α → List α
  | [], _ => []
  | i :: is, xs => pmC xs[i]? (permL is xs)
theorem argIx {K : PySem.W.Frag} {t : Option Addr} {F : Hp} : ∀ {as : List SV} {vs : List V}, ArgL K t F as vs → ∀ i : Nat, (as[i]? = none ∧ vs[i]? = none) ∨ ∃ a v, as[i]? = some a ∧ vs[i]? = some v ∧ ∀ as' vs', ArgL K t F as' vs' → ArgL K t F (a :: as') (v :: vs')
  | _, _, .nil, i => .inl ⟨by simp, by simp⟩
  | _, _, .val r q, 0 => .inr ⟨_, _, rfl, rfl, fun _ _ h => .val r h⟩
  | _, _, .tank r q, 0 => .inr ⟨_, _, rfl, rfl, fun _ _ h => .tank r h⟩
  | _, _, .val r q, i + 1 => by simpa using argIx q i
  | _, _, .tank r q, i + 1 => by simpa using argIx q i
theorem argP {K : PySem.W.Frag} {t : Option Addr} {F : Hp} {as : List SV} {vs : List V} (h : ArgL K t F as vs) : ∀ is, ArgL K t F (permL is as) (permL is vs)
  | [] => .nil
  | i :: is => by
    have ih := argP h is
    unfold permL
    rcases argIx h i with ⟨e1, e2⟩ | ⟨a, v, e1, e2, q⟩
    · rw [e1, e2]; exact ih
    · rw [e1, e2]; exact q _ _ ih
theorem prIx {α β : Type} {R : α → β → Prop} : ∀ {vs : List α} {us : List β}, Paired R vs us → ∀ i : Nat, (vs[i]? = none ∧ us[i]? = none) ∨ ∃ a v, vs[i]? = some a ∧ us[i]? = some v ∧ R a v
  | _, _, .nil, i => .inl ⟨by simp, by simp⟩
  | _, _, .cons r q, 0 => .inr ⟨_, _, rfl, rfl, r⟩
  | _, _, .cons r q, i + 1 => by simpa using prIx q i
theorem prP {α β : Type} {R : α → β → Prop} {vs : List α} {us : List β} (h : Paired R vs us) : ∀ is, Paired R (permL is vs) (permL is us)
  | [] => .nil
  | i :: is => by
    have ih := prP h is
    unfold permL
    rcases prIx h i with ⟨e1, e2⟩ | ⟨a, v, e1, e2, q⟩
    · rw [e1, e2]; exact ih
    · rw [e1, e2]; exact .cons q ih
def tCallP (n : Nat) (is : List Nat) (sp : Sp) (E : XK) (t : TA) : TE := fun σ H Q => t σ H fun vs H1 => vs.length = n ∧ sp (permL is vs) H1 Q E
section
variable {X : Cx} {CX : CXT} {n : Nat} {f : Addr} {fd : FuncData} {ps ks : List Str} {sp : Sp} {E : XK} {x : Str} {p pos : Pos} {kws : List Keyword} {tk : TA}
theorem g_callKP {is : List Nat} (G : GFn X.prog X.w X.K X.mg X.base CX n f fd ps sp) (hr : Room n X.A) (hgd : X.A.guards = some []) (hg : Gl X x) (hm : X.mg x = some (.ref f)) (hk : PySem.W.keepIn X.K (.ref f) = true) (hx : Passes CX X E)
    (hb : ∀ (s : Shared) (ws : List Value), X.K.In s.heap → ws.length = ps.length → BindsTo s fd ⟨[], ks.zip ws⟩ (ps.zip (permL is ws))) (hkw : PK X kws tk) (hd : (x == ("__debug__" : Str)) = false := by decide)
    (hall : (backToKw pos (keywordEach kws X.env)).all (·.1.isSome) = true := by rfl) (hks : (backToKw pos (keywordEach kws X.env)).filterMap (·.1) = ks := by rfl)
    (hp : ((backTo pos (starEach [] X.env)).any (·.1) || (backToKw pos (keywordEach kws X.env)).any (·.1.isNone)) = false := by rfl) : PE X (.Call (.Name x p) [] kws pos) (tCallP ps.length is sp E tk) := by
  constructor
  intro pins s σ H Q I h
  apply wpAny_Call_Name_kw
  apply ld_glob I hg hm _ hd
  apply PySem.W.callWith_KW0 (h₀ := X.base) I.ok.mod.kin hk hall _ hp
  apply thn (hkw.run pos pins s σ H _ I h)
  rintro ws s1 ⟨zs, H1, I1, r, hl, q⟩
  refine ⟨I1.kIn, ?_⟩
  rw [hks]
  have hl' : ws.length = ps.length := by rw [← r.length]; exact hl
  exact g_run G hr hgd hx (args := ⟨[], ks.zip ws⟩) I1 (prP r is) (hb s1 ws I1.kIn hl') q
end
section
variable {X : Cx} {n : Nat} {x : Str} {ps ks : List Str} {sem : Sem} {p pos : Pos} {kws : List Keyword} {fr : dA} {st : Stmt} {is : List Nat}
def dCallP (n : Nat) (is : List Nat) (sem : Sem) (fr : dA) : dE := fun ρ T k => fr ρ T fun as T1 => as.length = n ∧ (permL is as).length = n ∧ sem (permL is as) T1 k
theorem callP_ok {K : PySem.W.Frag} {E : XK} {σ : L2.St} {H : Hp} {Q : VK} (h : tD K (dCallP n is sem fr) σ H Q) : tCallP n is (spD K n sem) E (tDA K fr) σ H Q := by
  obtain ⟨ρ, T, t, F, k, w, h, f⟩ := h
  refine ⟨ρ, T, t, F, _, w, h, fun vs H1 F1 as T1 w1 g1 r1 h1 => ?_⟩
  have r2 := argP r1 is
  exact ⟨by rw [← r1.len]; exact h1.1, by rw [← r2.len]; exact h1.2.1, F1, t, T1, _, k, r2, w1, h1.2.2, f.then g1⟩
theorem d_callKP (D : Df X.K X.mg x st) (G : Ok X.prog X.w X.K X.mg X.base n x ps sem) (hr : Room n X.A) (hgd : X.A.guards = some [])
    (hb3 : ∀ (kV doc pm : Value) (an : Option Addr) (cdv ct : Value) (us : List Value), us.length = ps.length → bindArgs (PySem.W.fnOf x x (defArgs st) (defBody st) (defScope st) .none kV doc pm an cdv ct) ⟨[], ks.zip us⟩ = pure (ps.zip (permL is us)))
    (hkw : PKd X kws fr) (hg : Gl X x := by rfl) (hd : (x == ("__debug__" : Str)) = false := by decide)
    (hall : (backToKw pos (keywordEach kws X.env)).all (·.1.isSome) = true := by rfl) (hks : (backToKw pos (keywordEach kws X.env)).filterMap (·.1) = ks := by rfl)
    (hp : ((backTo pos (starEach [] X.env)).any (·.1) || (backToKw pos (keywordEach kws X.env)).any (·.1.isNone)) = false := by rfl) : PEd X (.Call (.Name x p) [] kws pos) (dCallP ps.length is sem fr) := by
  obtain ⟨f', fd', Fn, hm⟩ := D
  obtain ⟨f, fd, h1, h2, _, _, h5, oc', od', osl', lk'⟩ := G
  have ef : f' = f := by rw [h1] at hm; injection hm with e; injection e with e; exact e.symm
  subst ef
  obtain ⟨oc, od, kV, doc, pm, an, cdv, ct, osl, e, lk, _⟩ := Fn.ex
  have ed : fd = fd' := by
    rw [lk] at lk'
    injection lk' with e1
    injection e1 with _ _ e2
    injection e2 with e3
    exact e3.symm
  subst ed
  subst e
  exact pe_imp (g_callKP (E := E0) h5 hr hgd hg h1 h2 pass0 (fun s ws _ hl => .of_eq (hb3 kV doc pm an cdv ct ws hl)) hkw hd hall hks hp) fun _ _ _ h => callP_ok h
end
/-! the walker -/
def callP (n : Nat) (is : List Nat) (s : Sem) (as : List SV) (T : Tk) (k : KD) (fz : Fz k := ⟨⟩) : Prop := as.length = n ∧ (permL is as).length = n ∧ s (permL is as) T k
theorem h_callP {n : Nat} {is : List Nat} {s : Sem} {fr : dA} {ρ : En} {T : Tk} {k : KD} : dCallP n is s fr ρ T k = fr ρ T fun as T1 => callP n is s as T1 k := propext Iff.rfl
theorem callP_go {n : Nat} {is : List Nat} {s : Sem} {as : List SV} {T : Tk} {k : KD} : callP n is s as T k = (as.length = n ∧ (permL is as).length = n ∧ callS s (permL is as) T k) := propext Iff.rfl
theorem permL_n {α : Type} {xs : List α} : permL [] xs = [] := rfl
theorem permL_c {α : Type} {i : Nat} {is : List Nat} {xs : List α} : permL (i :: is) xs = pmC xs[i]? (permL is xs) := rfl
theorem pmC_s {α : Type} {x : α} {r : List α} : pmC (some x) r = x :: r := rfl
end L2.G

namespace L2.G
open PySem PySem.Spec PyProof.Rows
/-! sorted lists of tuples of ints, of either sign: over the library's sort of tuples by their keys -/
/-! over data -/
def tI (ns : List Int) : D := .tup (ns.map D.int)
/-- the order of tuples of one length -/
def lexLt : List Int → List Int → Bool
  | a :: r, b :: q => if a < b then true else if b < a then false else lexLt r q
  | _, _ => false
def insL (x : List Int) : List (List Int) → List (List Int)
  | [] => [x]
  | y :: r => if lexLt y x then y :: insL x r else x :: y :: r
def isort : List (List Int) → List (List Int)
  | [] => []
  | x :: r => insL x (isort r)
theorem insL_perm (x : List Int) : ∀ l, (insL x l).Perm (x :: l)
  | [] => .refl _
  | y :: r => by
    unfold insL
    split
    · exact ((insL_perm x r).cons y).trans (List.Perm.swap x y r)
    · exact .refl _
theorem isort_perm : ∀ l, (isort l).Perm l
  | [] => .refl _
  | x :: r => (insL_perm x (isort r)).trans ((isort_perm r).cons x)
theorem lexLt_tr : ∀ {a b c : List Int}, a.length = b.length → b.length = c.length → lexLt b a = false → lexLt c b = false → lexLt c a = false
  | [], [], [], _, _, _, _ => rfl
  | [], [], _ :: _, _, h, _, _ => by simp at h
  | [], _ :: _, _, h, _, _, _ => by simp at h
  | _ :: _, [], _, h, _, _, _ => by simp at h
  | _ :: _, _ :: _, [], _, h, _, _ => by simp at h
  | x :: a, y :: b, z :: c, h1, h2, p, q => by
    have l1 : a.length = b.length := by simpa using h1
    have l2 : b.length = c.length := by simpa using h2
    unfold lexLt at p q ⊢
    by_cases c1 : z < x
    · rw [if_pos c1]
      exfalso
      by_cases c2 : y < x
      · rw [if_pos c2] at p; exact nomatch p
      · by_cases c3 : z < y
        · rw [if_pos c3] at q; exact nomatch q
        · omega
    · rw [if_neg c1]
      by_cases c4 : x < z
      · rw [if_pos c4]
      · rw [if_neg c4]
        have e : z = x := by omega
        subst e
        by_cases c2 : y < z
        · rw [if_pos c2] at p; exact nomatch p
        · rw [if_neg c2] at p
          by_cases c3 : z < y
          · rw [if_pos c3] at q; exact nomatch q
          · rw [if_neg c3] at q p
            rw [if_neg c2] at q
            exact lexLt_tr l1 l2 p q
theorem lexLt_anti : ∀ {a b : List Int}, a.length = b.length → lexLt a b = false → lexLt b a = false → a = b
  | [], [], _, _, _ => rfl
  | [], _ :: _, h, _, _ => by simp at h
  | _ :: _, [], h, _, _ => by simp at h
  | x :: a, y :: b, h, p, q => by
    have l : a.length = b.length := by simpa using h
    unfold lexLt at p q
    by_cases c1 : x < y
    · rw [if_pos c1] at p; exact nomatch p
    · by_cases c2 : y < x
      · rw [if_pos c2] at q; exact nomatch q
      · rw [if_neg c1, if_neg c2] at p
        rw [if_neg c2, if_neg c1] at q
        rw [show x = y by omega, lexLt_anti l p q]
theorem lexLt_asym : ∀ {a b : List Int}, a.length = b.length → lexLt a b = true → lexLt b a = false
  | [], [], _, _ => rfl
  | [], _ :: _, h, _ => by simp at h
  | _ :: _, [], h, _ => by simp at h
  | x :: a, y :: b, h, p => by
    have l : a.length = b.length := by simpa using h
    unfold lexLt at p ⊢
    by_cases c1 : x < y
    · rw [if_neg (by omega), if_pos c1]
    · rw [if_neg c1] at p
      by_cases c2 : y < x
      · rw [if_pos c2] at p; exact nomatch p
      · rw [if_neg c2] at p
        rw [if_neg c2, if_neg c1]
        exact lexLt_asym l p
theorem insL_srt {d : Nat} {x : List Int} (hx : x.length = d) : ∀ {l : List (List Int)}, (∀ y ∈ l, y.length = d) → l.Pairwise (fun a b => lexLt b a = false) → (insL x l).Pairwise (fun a b => lexLt b a = false)
  | [], _, _ => by unfold insL; exact List.pairwise_singleton _ _
  | y :: r, hl, h => by
    obtain ⟨h1, h2⟩ := List.pairwise_cons.mp h
    have hy := hl y List.mem_cons_self
    have hr := fun z hz => hl z (List.mem_cons_of_mem _ hz)
    unfold insL
    split
    · rename_i c
      refine List.pairwise_cons.mpr ⟨fun z hz => ?_, insL_srt hx hr h2⟩
      rcases List.mem_cons.mp ((insL_perm x r).mem_iff.mp hz) with rfl | hz
      · exact lexLt_asym (by omega) c
      · exact h1 z hz
    · rename_i c
      have c : lexLt y x = false := by simpa using c
      refine List.pairwise_cons.mpr ⟨fun z hz => ?_, h⟩
      rcases List.mem_cons.mp hz with rfl | hz
      · exact c
      · exact lexLt_tr (b := y) (by omega) (by rw [hy, hr z hz]) c (h1 z hz)
theorem isort_srt {d : Nat} : ∀ {l : List (List Int)}, (∀ y ∈ l, y.length = d) → (isort l).Pairwise (fun a b => lexLt b a = false)
  | [], _ => List.Pairwise.nil
  | x :: r, h => insL_srt (h x List.mem_cons_self) (fun y hy => h y (List.mem_cons_of_mem _ ((isort_perm r).mem_iff.mp hy))) (isort_srt fun y hy => h y (List.mem_cons_of_mem _ hy))
theorem srt_uniq {d : Nat} {l m : List (List Int)} (hl : ∀ y ∈ l, y.length = d) (p : l.Perm m) (h1 : l.Pairwise (fun a b => lexLt b a = false)) (h2 : m.Pairwise (fun a b => lexLt b a = false)) : l = m :=
  List.Perm.eq_of_pairwise (fun a b ha hb h h' => lexLt_anti (by rw [hl a ha, hl b (p.mem_iff.mpr hb)]) h' h) h1 h2 p
/-! the library's key of a tuple of ints -/
abbrev noS : Nat → Bool := fun _ => false
def kyI (n : List Int) : List (Int ⊕ List Nat) := n.map Sum.inl
theorem kyI_lex : ∀ {a b : List Int}, a.length = b.length → PyProof.Rows.lexLt PyProof.Rows.itemOrd (kyI a) (kyI b) = lexLt a b
  | [], [], _ => rfl
  | [], _ :: _, e => by simp at e
  | _ :: _, [], e => by simp at e
  | x :: a, y :: b, e => by
    have ih := kyI_lex (a := a) (b := b) (by simpa using e)
    have st := PyProof.Rows.lex_cons (O := PyProof.Rows.itemOrd) (Sum.inl x) (Sum.inl y) (kyI a) (kyI b)
    rw [ih] at st
    refine st.trans ?_
    show (decide (x < y) || (!decide (y < x) && lexLt a b)) = lexLt (x :: a) (y :: b)
    rw [lexLt]
    by_cases p : x < y
    · rw [if_pos p, decide_eq_true p]; rfl
    · rw [if_neg p, decide_eq_false p]
      by_cases q : y < x
      · rw [if_pos q, decide_eq_true q]; rfl
      · rw [if_neg q, decide_eq_false q]; rfl
theorem items_ky : ∀ (n : List Int) (us : List Value) (i : Nat), Vals (n.map V.int) us → PyProof.Rows.tupItems noS i us = some (kyI n)
  | [], _, _, .nil => rfl
  | x :: n, _, i, .cons r q => by
    obtain ⟨t, rfl⟩ := r
    have ih := items_ky n _ (i + 1) q
    show (if false = true then none else (PyProof.Rows.tupItems noS (i + 1) _).map (Sum.inl x :: ·)) = _
    rw [if_neg (show ¬ false = true by decide), ih]
    rfl
section
variable {X : Cx} {pins : List (Addr × Obj)} {σ : L2.St} {H : Hp} {s : Shared}
theorem tup_obj (I : Inv X pins σ H s) {p : Addr × List Int} (h : SqT X.K H p.1 (p.2.map V.int)) : ∃ o xs n, s.heap.get? p.1 = some o ∧ o.cls = .type "tuple" ∧ o.data = .seq xs n ∧ Vals (p.2.map V.int) xs.toList := by
  obtain ⟨us, v, ⟨o, g, c, n, d⟩, _⟩ := I.tuple h
  exact ⟨o, us.toArray, n, g, c, d, v⟩
theorem tup_ky (I : Inv X pins σ H s) {p : Addr × List Int} (h : SqT X.K H p.1 (p.2.map V.int)) : PyProof.Rows.G.tupKeyC s.heap noS (.ref p.1) = some (kyI p.2) := by
  obtain ⟨o, xs, n, g, c, d, v⟩ := tup_obj I h
  have e := items_ky p.2 _ 0 v
  have t : PyProof.Rows.G.isTupObj s.heap (.ref p.1) = true := by
    unfold PyProof.Rows.G.isTupObj
    simp only [g, c]
    decide
  unfold PyProof.Rows.G.tupKeyC
  rw [if_pos t]
  unfold PyProof.Rows.tupKey
  simp only [g, d]
  exact e
theorem tup_first (I : Inv X pins σ H s) : ∀ (L : List (Addr × List Int)), (∀ p ∈ L, SqT X.K H p.1 (p.2.map V.int) ∧ p.2 ≠ []) → ∃ fs, PyProof.Rows.TupsOf s.heap noS (L.map fun p => Value.ref p.1) fs
  | [], _ => ⟨[], .nil⟩
  | p :: L, h => by
    obtain ⟨fs, ih⟩ := tup_first I L fun q hq => h q (List.mem_cons_of_mem _ hq)
    obtain ⟨h1, h2⟩ := h p List.mem_cons_self
    obtain ⟨o, xs, n, g, c, d, v⟩ := tup_obj I h1
    obtain ⟨m, r, er⟩ := List.exists_cons_of_ne_nil h2
    rw [er] at v
    obtain ⟨u, us, ex⟩ : ∃ u us, xs.toList = u :: us := by
      cases z : xs.toList with
      | nil => rw [z] at v; cases v
      | cons u us => exact ⟨u, us, rfl⟩
    rw [ex] at v
    have hu : ∃ t, u = .int m t := by
      cases v with
      | cons r _ => exact r
    obtain ⟨t, rfl⟩ := hu
    have g0 : xs[0]? = some (.int m t) := by rw [← Array.getElem?_toList, ex]; rfl
    exact ⟨_, .cons ⟨p.1, o, xs, n, rfl, g, c, d, g0, fun _ => ⟨m, t, rfl⟩, fun z => nomatch z⟩ ih⟩
end
theorem perm_map_ex {α β : Type} {f : α → β} : ∀ {l : List α} {ys : List β}, ys.Perm (l.map f) → ∃ l' : List α, l'.Perm l ∧ ys = l'.map f
  | [], ys, h => ⟨[], .refl _, List.perm_nil.mp h⟩
  | x :: l, ys, h => by
    have hm : f x ∈ ys := h.mem_iff.mpr List.mem_cons_self
    obtain ⟨s, t, rfl⟩ := List.append_of_mem hm
    have h2 : (s ++ t).Perm (l.map f) := by
      have h3 : (s ++ f x :: t).Perm (f x :: l.map f) := h
      exact (List.perm_cons (f x)).mp (List.perm_middle.symm.trans h3)
    obtain ⟨l', p, e⟩ := perm_map_ex h2
    obtain ⟨l1, l2, rfl, rfl, rfl⟩ := List.map_eq_append_iff.mp e.symm
    refine ⟨l1 ++ x :: l2, List.perm_middle.trans (p.cons x), ?_⟩
    rw [List.map_append, List.map_cons]
theorem zip_own : ∀ L : List (Addr × List Int), (L.map fun p => Value.ref p.1).zip (L.map fun p => Value.ref p.1) = L.map fun p => (Value.ref p.1, Value.ref p.1)
  | [] => rfl
  | p :: L => by rw [List.map_cons, List.zip_cons_cons, zip_own L]; rfl
def rSortX (K : PySem.W.Frag) : List V → Hp → VK → Prop := fun vs H Q => ∃ (a : Addr) (L : List (Addr × List Int)) (d : Nat), vs = [.ref a] ∧ SqL K H a (L.map fun p => V.ref p.1) ∧ (∀ p ∈ L, SqT K H p.1 (p.2.map V.int) ∧ p.2.length = d) ∧ 1 ≤ d ∧
  ∀ (L' : List (Addr × List Int)) (b : Addr), L'.Perm L → L'.Pairwise (fun x y => lexLt y.2 x.2 = false) → H b = none → Q (.ref b) (upd H b (.lst (L'.map fun p => V.ref p.1)))
theorem cr_sortX {X : Cx} : CallR X (.builtin "sorted") (rSortX X.K) := by
  intro pins s σ H vs us Q I r ⟨a, L, d, e, sq, tp, d1, fin⟩
  subst e
  obtain ⟨its, vl, pl, lim⟩ := I.list sq
  have ei := refs_of_vals vl
  subst ei
  rw [Vals.ref1 r]
  obtain ⟨fs, ht⟩ := tup_first I L fun p hp => ⟨(tp p hp).1, fun z => by have := (tp p hp).2; rw [z] at this; simp at this; omega⟩
  have lim2 : (L.map fun p => Value.ref p.1).length ≤ sizeLine := by rw [List.length_map] at lim ⊢; exact lim
  refine PyProof.Rows.G.sorted_tups pl.isList ht (fun v hv => ?_) lim2 fun st pm so _ => ?_
  · obtain ⟨p, hp, rfl⟩ := List.mem_map.mp hv
    exact ⟨_, tup_ky I (tp p hp).1⟩
  have e0 : (PyProof.Rows.pairsOf (L.map fun p => Value.ref p.1)).toList = L.map fun p => (Value.ref p.1, Value.ref p.1) := by rw [PyProof.Rows.pairsOf_toList]; exact zip_own L
  have pm2 : (arrOf st).toList.Perm (L.map fun p => (Value.ref p.1, Value.ref p.1)) := by rw [← e0]; exact pm.toList
  obtain ⟨L', pL, eL⟩ := perm_map_ex pm2
  have mem : ∀ p ∈ L', p ∈ L := fun p hp => pL.mem_iff.mp hp
  have at_ : ∀ i (hi : i < L'.length), PyProof.Rows.KK (PyProof.Rows.G.tupKindC s.heap noS) (arrOf st) i = kyI (L'[i]).2 := fun i hi => by
    have g : (arrOf st)[i]? = some (Value.ref (L'[i]).1, Value.ref (L'[i]).1) := by rw [← Array.getElem?_toList, eL, List.getElem?_map, List.getElem?_eq_getElem hi]; rfl
    unfold PyProof.Rows.KK
    rw [g]
    show ((PyProof.Rows.G.tupKeyC s.heap noS (.ref (L'[i]).1)).getD _) = _
    rw [tup_ky I (tp _ (mem _ (List.getElem_mem hi))).1]
    rfl
  have sz : (PyProof.Rows.pairsOf (L.map fun p => Value.ref p.1)).size = L'.length := by rw [← Array.length_toList, e0, List.length_map, pL.length_eq]
  have pw : L'.Pairwise (fun x y => lexLt y.2 x.2 = false) := by
    rw [List.pairwise_iff_getElem]
    intro i j hi hj ij
    have h := so i j (Nat.le_of_lt ij) (by rw [sz]; exact hj)
    rw [at_ i hi, at_ j hj] at h
    have dl : ∀ n (hn : n < L'.length), (L'[n]).2.length = d := fun n hn => (tp _ (mem _ (List.getElem_mem hn))).2
    rw [← kyI_lex (by rw [dl i hi, dl j hj])]
    exact h
  have eo : ((arrOf st).map (·.2)).toList = L'.map fun p => Value.ref p.1 := by rw [Array.toList_map, eL, List.map_map]; rfl
  obtain ⟨c, at2⟩ := PyProof.Rows.sortedAll_at s.heap (L.map fun p => Value.ref p.1) ((arrOf st).map (·.2))
  generalize (arrOf st).map (·.2) = out at eo at2 ⊢
  have len : (L'.map fun p => V.ref p.1).length ≤ sizeLine := by rw [List.length_map, pL.length_eq, ← List.length_map (f := fun p : Addr × List Int => V.ref p.1)]; exact lim
  have up : s.heap.objs.size ≤ s.heap.objs.size + 1 := Nat.le_succ _
  refine ⟨.ref (s.heap.objs.size + 1), upd H (s.heap.objs.size + 1) (.lst (L'.map fun p => V.ref p.1)), ?_, rfl, fin L' _ pL pw (I.hok.fresh up)⟩
  exact I.laid (t' := s.toks) (fun _ _ z => PyProof.Rows.sortedAll_old z) up ⟨len, out.toList, c, by rw [eo]; exact vals_of_refs L', at2⟩
def tups? : List D → Option (List (List Int))
  | [] => some []
  | .tup xs :: r => match nums? xs, tups? r with | some n, some m => some (n :: m) | _, _ => none
  | _ :: _ => none
def TupsD (nss : List (List Int)) : Prop := nss.length < 64 ∧ ∃ d, 1 ≤ d ∧ ∀ n ∈ nss, n.length = d
def stR : Option (List (List Int)) → PD | some nss => some (TupsD nss, .lst ((isort nss).map tI)) | none => none
def fSortT : List D → PD | [.lst xs] => stR (tups? xs) | _ => none
theorem fSortT_lst {xs : List D} : fSortT [.lst xs] = stR (tups? xs) := rfl
theorem stR_some {n : List (List Int)} : stR (some n) = some (TupsD n, .lst ((isort n).map tI)) := rfl
theorem tups_some : ∀ {ds : List D} {nss : List (List Int)}, tups? ds = some nss → ds = nss.map tI
  | [], nss, e => by cases e; rfl
  | d :: ds, nss, e => by
    have ih := fun cs => tups_some (ds := ds) (nss := cs)
    cases d with
    | tup xs =>
      unfold tups? at e
      cases e1 : nums? xs with
      | none => rw [e1] at e; cases e
      | some n =>
        cases e2 : tups? ds with
        | none => rw [e1, e2] at e; cases e
        | some m =>
          rw [e1, e2] at e
          cases e
          rw [ih m e2, nums_some e1]
          rfl
    | _ => exact absurd e (by simp [tups?])
theorem tups_inv {K : PySem.W.Frag} {F : Hp} : ∀ {nss : List (List Int)} {vs : List V}, RepL K F (nss.map tI) vs → ∃ L : List (Addr × List Int), vs = L.map (fun p => V.ref p.1) ∧ nss = L.map (·.2) ∧ ∀ p ∈ L, SqT K F p.1 (p.2.map V.int)
  | [], _, r => by cases r; exact ⟨[], rfl, rfl, fun p h => nomatch h⟩
  | n :: nss, _, r => by
    cases r with
    | cons r q =>
      obtain ⟨L, h1, h2, h3⟩ := tups_inv q
      obtain ⟨a, xs, rfl, h, r⟩ := rep_tup r
      have e := nums_inv r
      subst e
      refine ⟨(a, n) :: L, by rw [h1]; rfl, by rw [h2]; rfl, fun p hp => ?_⟩
      rcases List.mem_cons.mp hp with e | hp
      · rw [e]; exact h
      · exact h3 p hp
theorem tups_rep {K : PySem.W.Frag} {F : Hp} {ds : List D} {vs : List V} {nss : List (List Int)} (r : RepL K F ds vs) (e : tups? ds = some nss) : ∃ L : List (Addr × List Int), vs = L.map (fun p => V.ref p.1) ∧ nss = L.map (·.2) ∧ ∀ p ∈ L, SqT K F p.1 (p.2.map V.int) := by
  rw [tups_some e] at r
  exact tups_inv r
theorem ints_rep {K : PySem.W.Frag} {F : Hp} : ∀ n : List Int, RepL K F (n.map D.int) (n.map V.int)
  | [] => .nil
  | a :: n => .cons (.int a) (ints_rep n)
theorem rep_tI {K : PySem.W.Frag} {F : Hp} : ∀ {L : List (Addr × List Int)}, (∀ p ∈ L, SqT K F p.1 (p.2.map V.int)) → RepL K F ((L.map (·.2)).map tI) (L.map fun p => V.ref p.1)
  | [], _ => .nil
  | p :: L, h => .cons (.tup (h p List.mem_cons_self) (ints_rep p.2)) (rep_tI fun q hq => h q (List.mem_cons_of_mem _ hq))
def oSortT (ds : List D) (k : D → Prop) : Prop := match ds with | [.lst xs] => (match tups? xs with | some nss => TupsD nss ∧ k (.lst ((isort nss).map tI)) | none => False) | _ => False
theorem oSortT_ok {K : PySem.W.Frag} : BltS K (rSortX K) oSortT := by
  intro t F H T ds vs k Q wt r q f
  unfold oSortT at q
  split at q
  · split at q
    · rename_i nss e
      cases r with
      | cons r rr =>
        cases rr
        obtain ⟨a, ws, rfl, h, r⟩ := rep_lst r
        obtain ⟨⟨_, d, d1, dl⟩, q⟩ := q
        obtain ⟨L, rfl, hn, hs⟩ := tups_rep r e
        have inn : ∀ p ∈ L, p.2.length = d := fun p hp => dl _ (by rw [hn]; exact List.mem_map.mpr ⟨p, hp, rfl⟩)
        refine ⟨a, L, d, rfl, .of (wt.sub _ _ h), fun p hp => ⟨same_t wt.sub (hs p hp), inn p hp⟩, d1, fun L' b pL pw hb => ?_⟩
        have e2 : L'.map (·.2) = isort nss := by
          have pm : (L'.map (·.2)).Perm nss := by rw [hn]; exact pL.map _
          exact srt_uniq (d := d) (fun y hy => dl y (pm.mem_iff.mp hy)) (pm.trans (isort_perm nss).symm) (by rw [List.pairwise_map]; exact pw) (isort_srt dl)
        rw [← e2] at q
        exact f.lst wt (rep_tI fun p hp => hs p (pL.mem_iff.mp hp)) hb q
    · exact q.elim
  · exact q.elim
theorem fSortT_ok {ds : List D} {k : D → Prop} (h : oG fSortT ds k) : oSortT ds k := by
  refine one_ok (f := fSortT) (o := oSortT) ?_ ?_ ?_ h
  · intro k h; exact h.elim
  · intro d k h
    cases d <;> first | exact h.elim | skip
    rename_i xs
    unfold oG fSortT at h
    unfold oSortT
    simp only at h ⊢
    match q : tups? xs with
    | none => rw [q] at h; exact h.elim
    | some n => rw [q] at h; exact h
  · intro d e r k h; cases d <;> exact h.elim
section
variable {X : Cx} {e : Expr} {fr : dA} {p pos : Pos} {es : List Expr}
theorem g_sortT (hm : X.mg "sorted" = none) (ha : PAd X (e :: es) fr) (hg : Gl X "sorted" := by rfl)
    (he : starEach (e :: es) X.env = (false, eval e X.env) :: starEach es X.env := by rfl) (hp : (backTo pos (starEach es X.env)).any (·.1) = false := by rfl) : PEd X (.Call (.Name "sorted" p) (e :: es) [] pos) (dBlt (oG fSortT) fr) := d_blt cr_sortX (oSortT_ok.imp fun _ _ => fSortT_ok) hm ha (by decide +kernel) hg (by decide) (by decide) he hp
end
/-! bit_length -/
def bitI (i : Int) : Int := (Builtin.Int.intBits i : Nat)
def fBitL : D → D → PD | .int i, _ => some (True, .int (bitI i)) | _, _ => none
theorem fBitL_int {i : Int} {d : D} : fBitL (.int i) d = some (True, .int (bitI i)) := rfl
theorem bits_ok {K : PySem.W.Frag} {fo : dE} {σ : L2.St} {H : Hp} {Q : VK} (h : tD K (dOp (oF fBitL) fo (dC .non)) σ H Q) : tBits (tD K fo) σ H Q := by
  obtain ⟨ρ, T, t, F, k, w, h, f⟩ := h
  refine ⟨ρ, T, t, F, _, w, h, fun v H1 F1 d T1 w1 g1 r1 h1 => ?_⟩
  have h1 : oF fBitL d .non fun d => k d T1 := h1
  cases d with
  | int i =>
    cases r1
    exact ⟨i, rfl, (f.then g1).val w1 (.int _) h1.2⟩
  | _ => exact h1.elim
theorem g_bits {X : Cx} {o : Expr} {fo : dE} {apos pos : Pos} (ho : PEd X o fo) (hb : attributeBase o "bit_length" X.env (eval o X.env) = eval o X.env := by rfl) (hl : (apos.endLine == pos.line) = true := by rfl) : PEd X (.Call (.Attribute o "bit_length" apos) [] [] pos) (dOp (oF fBitL) fo (dC .non)) := pe_imp (pe_bits ho hb hl) fun _ _ _ h => bits_ok h
theorem bitI_lt {n : Int} (h : 0 ≤ n) : n < 2 ^ (bitI n).toNat := by
  unfold bitI Builtin.Int.intBits
  by_cases z : n = 0
  · subst z
    decide
  · rw [if_neg (by simpa using z)]
    have e : ((n.natAbs.log2 + 1 : Nat) : Int).toNat = n.natAbs.log2 + 1 := by omega
    rw [e]
    have := Nat.lt_log2_self (n := n.natAbs)
    have e2 : n = (n.natAbs : Int) := by omega
    rw [e2]
    exact_mod_cast this
theorem bitI_le {n : Int} {m : Nat} (h : Sz m n) : bitI n ≤ m := by
  unfold bitI Builtin.Int.intBits
  by_cases z : n = 0
  · subst z
    simp
  · rw [if_neg (by simpa using z)]
    have : n.natAbs.log2 < m := (Nat.log2_lt (by omega)).mpr h
    omega
theorem bitI_nn (n : Int) : 0 ≤ bitI n := Int.natCast_nonneg _
/-! short lists -/
theorem tups_nil : tups? [] = some [] := rfl
def tpC : Option (List Int) → Option (List (List Int)) → Option (List (List Int)) | some n, some m => some (n :: m) | _, _ => none
theorem tups_c {xs r : List D} : tups? (.tup xs :: r) = tpC (nums? xs) (tups? r) := rfl
theorem tpC_some {n : List Int} {m : List (List Int)} : tpC (some n) (some m) = some (n :: m) := rfl
theorem isort2 (a b : List Int) : isort [a, b] = if lexLt b a then [b, a] else [a, b] := rfl
theorem isort_p {d : Nat} {l m : List (List Int)} (hl : ∀ y ∈ l, y.length = d) (p : l.Perm m) : isort l = isort m :=
  srt_uniq (d := d) (fun y hy => hl y ((isort_perm l).mem_iff.mp hy)) ((isort_perm l).trans (p.trans (isort_perm m).symm)) (isort_srt hl) (isort_srt fun y hy => hl y (p.mem_iff.mpr hy))
end L2.G

namespace L2.G
open PySem PySem.Spec PyProof.Rows
/-! a call whose first arguments stand by place and whose later ones by name -/
theorem valsApp {vs us : List Value} {as bs : List V} : ∀ (h : Vals as vs) (q : Vals bs us), Vals (as ++ bs) (vs ++ us)
  | .nil, q => q
  | .cons r h, q => .cons r (valsApp h q)
theorem ArgL.cat {K : PySem.W.Frag} {t : Option Addr} {F : Hp} {bs : List SV} {ws : List V} (q : ArgL K t F bs ws) : ∀ {as : List SV} {vs : List V}, ArgL K t F as vs → ArgL K t F (as ++ bs) (vs ++ ws)
  | _, _, .nil => q
  | _, _, .val r h => .val r (ArgL.cat q h)
  | _, _, .tank r h => .tank r (ArgL.cat q h)
def tApp (m k : Nat) (t u : TA) : TA := fun σ H Q => t σ H fun vs H1 => u σ H1 fun ws H2 => vs.length = m ∧ ws.length = k ∧ Q (vs ++ ws) H2
def aApp (m n : Nat) (f g : dA) : dA := fun ρ T k => f ρ T fun as T1 => g ρ T1 fun bs T2 => as.length = m ∧ bs.length = n ∧ k (as ++ bs) T2
theorem aApp_t {K : PySem.W.Frag} {m n : Nat} {f g : dA} {σ : L2.St} {H : Hp} {Q : List V → Hp → Prop} (h : tDA K (aApp m n f g) σ H Q) : tApp m n (tDA K f) (tDA K g) σ H Q := by
  obtain ⟨ρ, T, t, F, k, w, h, f⟩ := h
  refine ⟨ρ, T, t, F, _, w, h, fun vs H1 F1 as T1 w1 g1 r1 h1 => ?_⟩
  refine ⟨ρ, T1, t, F1, _, w.grow g1 w1, h1, fun ws H2 F2 bs T2 w2 g2 r2 h2 => ?_⟩
  exact ⟨by rw [← r1.len]; exact h2.1, by rw [← r2.len]; exact h2.2.1, f _ _ _ _ _ w2 (g1.trans g2) (r2.cat (r1.mono g2.sub)) h2.2.2⟩
section
variable {X : Cx} {CX : CXT} {n m : Nat} {f : Addr} {fd : FuncData} {ps ks : List Str} {sp : Sp} {E : XK} {x : Str} {p pos : Pos} {e : Expr} {es : List Expr} {kws : List Keyword} {t tk : TA}
theorem g_callMP {is : List Nat} (G : GFn X.prog X.w X.K X.mg X.base CX n f fd ps sp) (hr : Room n X.A) (hgd : X.A.guards = some []) (hg : Gl X x) (hm : X.mg x = some (.ref f)) (hk : PySem.W.keepIn X.K (.ref f) = true) (hx : Passes CX X E)
    (hb : ∀ (s : Shared) (us ws : List Value), X.K.In s.heap → us.length = m → ws.length = ks.length → BindsTo s fd ⟨us, ks.zip ws⟩ (ps.zip (permL is (us ++ ws)))) (ha : PA X (e :: es) t) (hkw : PK X kws tk) (hd : (x == ("__debug__" : Str)) = false := by decide)
    (he : starEach (e :: es) X.env = (false, eval e X.env) :: starEach es X.env := by rfl)
    (hall : (backToKw pos (keywordEach kws X.env)).all (·.1.isSome) = true := by rfl) (hks : (backToKw pos (keywordEach kws X.env)).filterMap (·.1) = ks := by rfl)
    (hp : ((backTo pos (starEach (e :: es) X.env)).any (·.1) || (backToKw pos (keywordEach kws X.env)).any (·.1.isNone)) = false := by rfl) : PE X (.Call (.Name x p) (e :: es) kws pos) (tCallP ps.length is sp E (tApp m ks.length t tk)) := by
  constructor
  intro pins s σ H Q I h
  apply wpAny_Call_Name_kw
  apply ld_glob I hg hm _ hd
  apply PySem.W.callWith_KW (h₀ := X.base) I.ok.mod.kin hk hall _ hp he
  apply thn (ha.run pos pins s σ H _ I h)
  rintro us s1 ⟨vs, H1, I1, r, q1⟩
  apply thn (hkw.run pos pins s1 σ H1 _ I1 q1)
  rintro ws s2 ⟨zs, H2, I2, r2, l1, l2, hl, q⟩
  refine ⟨I2.kIn, ?_⟩
  rw [hks]
  have l1' : us.length = m := by rw [← r.length]; exact l1
  have l2' : ws.length = ks.length := by rw [← r2.length]; exact l2
  exact g_run G hr hgd hx (args := ⟨us, ks.zip ws⟩) I2 (prP (valsApp r r2) is) (hb s2 us ws I2.kIn l1' l2') q
end
section
variable {X : Cx} {n m : Nat} {x : Str} {ps ks : List Str} {sem : Sem} {p pos : Pos} {e : Expr} {es : List Expr} {kws : List Keyword} {fa fr : dA} {st : Stmt} {is : List Nat}
theorem d_callMP (D : Df X.K X.mg x st) (G : Ok X.prog X.w X.K X.mg X.base n x ps sem) (hr : Room n X.A) (hgd : X.A.guards = some [])
    (hb3 : ∀ (kV doc pm : Value) (an : Option Addr) (cdv ct : Value) (us ws : List Value), us.length = m → ws.length = ks.length → bindArgs (PySem.W.fnOf x x (defArgs st) (defBody st) (defScope st) .none kV doc pm an cdv ct) ⟨us, ks.zip ws⟩ = pure (ps.zip (permL is (us ++ ws))))
    (ha : PAd X (e :: es) fa) (hkw : PKd X kws fr) (hg : Gl X x := by rfl) (hd : (x == ("__debug__" : Str)) = false := by decide)
    (he : starEach (e :: es) X.env = (false, eval e X.env) :: starEach es X.env := by rfl)
    (hall : (backToKw pos (keywordEach kws X.env)).all (·.1.isSome) = true := by rfl) (hks : (backToKw pos (keywordEach kws X.env)).filterMap (·.1) = ks := by rfl)
    (hp : ((backTo pos (starEach (e :: es) X.env)).any (·.1) || (backToKw pos (keywordEach kws X.env)).any (·.1.isNone)) = false := by rfl) : PEd X (.Call (.Name x p) (e :: es) kws pos) (dCallP ps.length is sem (aApp m ks.length fa fr)) := by
  obtain ⟨f', fd', Fn, hm⟩ := D
  obtain ⟨f, fd, h1, h2, _, _, h5, oc', od', osl', lk'⟩ := G
  have ef : f' = f := by rw [h1] at hm; injection hm with e; injection e with e; exact e.symm
  subst ef
  obtain ⟨oc, od, kV, doc, pm, an, cdv, ct, osl, e, lk, _⟩ := Fn.ex
  have ed : fd = fd' := by
    rw [lk] at lk'
    injection lk' with e1
    injection e1 with _ _ e2
    injection e2 with e3
    exact e3.symm
  subst ed
  subst e
  refine pe_imp (g_callMP (E := E0) h5 hr hgd hg h1 h2 pass0 (fun s us ws _ l1 l2 => .of_eq (hb3 kV doc pm an cdv ct us ws l1 l2)) ha hkw hd he hall hks hp) fun σ H Q h => ?_
  exact aApp_t (callP_ok (E := E0) h)
end
/-! the walker -/
theorem h_aApp {m n : Nat} {f g : dA} {ρ : En} {T : Tk} {k : List SV → Tk → Prop} : aApp m n f g ρ T k = f ρ T fun as T1 => g ρ T1 fun bs T2 => as.length = m ∧ bs.length = n ∧ k (as ++ bs) T2 := propext Iff.rfl
end L2.G

namespace L2.G
open PySem PySem.Spec PyProof.Rows
/-! x, y = [..], a where x's list is its own -/
section
variable {X : Cx} {a : Expr} {es : List Expr} {fa : dE} {fr : dA} {pos : Pos}
def sParF (i j : Nat) (fr : dA) (fa : dE) : dS := fun k ρ T => fr ρ T fun as T1 => match vals? as with | some ds => ds.length ≤ 1000000 ∧ fa ρ T1 fun d T2 => k.nx ((ρ.set i (some (.own ds))).set j (some (.val d))) T2 | none => False
end
/-! the walker -/
theorem h_parF {i j : Nat} {fa : dE} {fr : dA} {K : dEnds} {ρ : En} {T : Tk} : sParF i j fr fa K ρ T = fr ρ T fun as T1 => sqK (vals? as) fun ds => ds.length ≤ 1000000 ∧ fa ρ T1 fun d T2 => setE ((ρ.set i (some (.own ds))).set j (some (.val d))) fun ρ => K.nx ρ T2 := propext Iff.rfl
end L2.G

namespace L2.G
open PySem PySem.Spec PyProof.Rows
/-! the head: what the top leaves, read by one run off the tree (nothing of the top is written out) -/
/-- the value u is the data d; g tells the object at an address -/
def repB (g : Addr → Option Obj) : Nat → D → Value → Bool
  | 0, _, _ => false
  | _ + 1, .int i, .int j _ => decide (i = j)
  | _ + 1, .str i, .str j _ => decide (i = j)
  | _ + 1, .bl i, .bool j => i == j
  | _ + 1, .non, .none => true
  | n + 1, .tup ds, .ref a => (match g a with
    | some ⟨.type c, _, .seq its _, _⟩ => decide (c = "tuple") && (Nat.ble its.size 1000000 && (Nat.beq ds.length its.toList.length && (ds.zip its.toList).all fun p => repB g n p.1 p.2))
    | _ => false)
  | _ + 1, _, _ => false
/-- the objects within a value -/
def inV (g : Addr → Option Obj) : Nat → Value → List Addr
  | 0, _ => []
  | n + 1, .ref a => a :: (match g a with
    | some ⟨_, _, .seq its _, _⟩ => its.toList.flatMap (inV g n)
    | _ => [])
  | _ + 1, _ => []
theorem repB_l {g : Addr → Option Obj} {K : PySem.W.Frag} {n : Nat} (ih : ∀ {d : D} {u : Value}, (∀ a ∈ inV g n u, ∀ o, g a = some o → K.lookup a = some o) → repB g n d u = true → GRep K d u) : ∀ {ds : List D} {us : List Value}, (∀ a ∈ us.flatMap (inV g n), ∀ o, g a = some o → K.lookup a = some o) → ds.length = us.length → ((ds.zip us).all fun p => repB g n p.1 p.2) = true → GRepL K ds us
  | [], [], _, _, _ => .nil
  | [], _ :: _, _, e, _ => by simp at e
  | _ :: _, [], _, e, _ => by simp at e
  | d :: ds, u :: us, k, e, h => by
    rw [List.zip_cons_cons, List.all_cons, Bool.and_eq_true] at h
    rw [List.flatMap_cons] at k
    exact .cons (ih (fun a q => k a (List.mem_append.mpr (.inl q))) h.1) (repB_l ih (fun a q => k a (List.mem_append.mpr (.inr q))) (by simpa using e) h.2)
theorem repB_ok {g : Addr → Option Obj} {K : PySem.W.Frag} : ∀ {n : Nat} {d : D} {u : Value}, (∀ a ∈ inV g n u, ∀ o, g a = some o → K.lookup a = some o) → repB g n d u = true → GRep K d u
  | 0, _, _, _, h => nomatch h
  | n + 1, d, u, k, h => by
    have ih := fun {d u} => repB_ok (g := g) (K := K) (n := n) (d := d) (u := u)
    cases d with
    | int i =>
      cases u with
      | int j t => have e : i = j := of_decide_eq_true h; subst e; exact .int _ _
      | _ => exact nomatch h
    | str i =>
      cases u with
      | str j t => have e : i = j := of_decide_eq_true h; subst e; exact .str _ _
      | _ => exact nomatch h
    | bl i =>
      cases u with
      | bool j => have e : i = j := eq_of_beq h; subst e; exact .bl _
      | _ => exact nomatch h
    | non =>
      cases u with
      | none => exact .non
      | _ => exact nomatch h
    | tup ds =>
      cases u with
      | ref a =>
        have h1 : (match g a with
          | some ⟨.type c, _, .seq its _, _⟩ => decide (c = "tuple") && (Nat.ble its.size 1000000 && (Nat.beq ds.length its.toList.length && (ds.zip its.toList).all fun p => repB g n p.1 p.2))
          | _ => false) = true := h
        have k1 : ∀ b ∈ a :: (match g a with
          | some ⟨_, _, .seq its _, _⟩ => its.toList.flatMap (inV g n)
          | _ => []), ∀ o, g b = some o → K.lookup b = some o := k
        cases q : g a with
        | none => rw [q] at h1; cases h1
        | some o =>
          have q2 := k1 a List.mem_cons_self o q
          obtain ⟨oc, od, dt, osl⟩ := o
          rw [q] at h1 k1
          cases oc with
          | type c =>
            cases dt with
            | seq its m =>
              have h2 : (decide (c = "tuple") && (Nat.ble its.size 1000000 && (Nat.beq ds.length its.toList.length && (ds.zip its.toList).all fun p => repB g n p.1 p.2))) = true := h1
              simp only [Bool.and_eq_true] at h2
              obtain ⟨a1, a2, a3, a4⟩ := h2
              have e := of_decide_eq_true a1
              subst e
              exact .tup q2 (repB_l ih (fun b qb => k1 b (List.mem_cons_of_mem _ qb)) (Nat.eq_of_beq_eq_true a3) a4) (Nat.le_of_ble_eq_true a2)
            | _ => cases h1
          | _ => cases dt <;> cases h1
      | _ => exact nomatch h
    | _ => cases u <;> exact nomatch h
/-- what is read: defs, names that stand for no name of the module, built-ins that were brought in, constants -/
structure Hd where
  defs : List (Str × Stmt)
  free : List Str
  blt : List (Str × String)
  cons : List (Str × D)
  cls : List Str := []
  prs : List (Str × Str) := []
  /-- classes with an own __init__: name, field, qualified name, the def -/
  ini : List (Str × Str × Str × Stmt) := []
  /-- classes whose instances isinstance asks -/
  exs : List Str := []
  kis : List (Str × Str × Bool) := []
  kib : List (Str × String × Bool) := []
  /-- the dict of all modules stands where it does -/
  sys : Bool := false
def hdD (d : Str × Stmt) : He.FnD := ⟨(d.1, none), d.1, d.1, defArgs d.2, defBody d.2, defScope d.2⟩
def lkE (es : List DictEntry) (x : Str) : Option Value := (es.find? (·.key.isStr x)).map (·.val)
def codB (g : Addr → Option Obj) (cd : Value) (q : Str) : Bool := match cd with
  | .ref c => (match g c with
    | some ⟨_, _, .fields vs, _⟩ => (match vs.toList with
      | _ :: .str n _ :: _ => n == q
      | _ => false)
    | _ => false)
  | _ => false
/-- a def as the heap has it -/
def defV (g : Addr → Option Obj) (es : List DictEntry) (x : Str) : Bool × He.FnV := match lkE es x with
  | some (.ref f) => (match g f with
    | some ⟨_, _, .func fd, _⟩ => (codB g fd.code x, some (fd.name, fd.qualname, fd.params, fd.body, fd.scope, fd.globals, fd.closure, fd.defaults, fd.builtins))
    | _ => (false, none))
  | _ => (false, none)
def bltB (es : List DictEntry) (x : Str × String) : Bool := match lkE es x.1 with
  | some (.builtin m) => decide (m = x.2)
  | _ => false
def conB (g : Addr → Option Obj) (es : List DictEntry) (c : Str × D) : Bool := match lkE es c.1 with
  | some u => repB g 9 c.2 u
  | none => false
def adV : Value → List Addr
  | .ref a => [a]
  | _ => []
/-- the addresses that the facts lean on -/
def asOf (g : Addr → Option Obj) (es : List DictEntry) : List Addr := mainGlobals :: (es.flatMap fun e => adV e.val ++ ((adV e.val).flatMap fun f => match g f with
  | some ⟨_, _, .func fd, _⟩ => adV fd.code
  | _ => []) ++ inV g 9 e.val)
/-- the addresses of own classes -/
def clsAs1 (g : Addr → Option Obj) (es : List DictEntry) (x : Str) : List Addr := match lkE es x with
  | some (.ref C) => (match g C with
    | some ⟨_, _, .cls cd, _⟩ => C :: cd.ns :: (cd.mro.flatMap fun v => (match v with
      | .ref A => A :: (match g A with
        | some ⟨_, _, .cls cd2, _⟩ => [cd2.ns]
        | _ => [])
      | _ => [])) ++ (match g cd.ns with
        | some ⟨_, _, .dict es2 _, _⟩ => (match lkE es2.toList "__init__" with
          | some (.ref f) => f :: (match g f with
            | some ⟨_, _, .func fd, _⟩ => adV fd.code
            | _ => [])
          | _ => [])
        | _ => [])
    | _ => [])
  | _ => []
def clsAs (g : Addr → Option Obj) (es : List DictEntry) (cls : List Str) : List Addr := cls.flatMap (clsAs1 g es)
/-- an own class without own __init__ over ValueError -/
def xcB (K : PySem.W.Frag) (C : Addr) : Bool := PySem.W.excIn K C PySem.HandSPX.veTail "ValueError.__new__" && (PySem.W.keepIn K (.ref C) && (PySem.W.subIn K (.ref C) (.type "BaseException") == some true && PySem.W.typeIn K (.ref C) == some (.type "type")))
def xcE (K : PySem.W.Frag) (es : List DictEntry) (x : Str) : Bool := match lkE es x with
  | some (.ref C) => xcB K C
  | _ => false
def prE (K : PySem.W.Frag) (es : List DictEntry) (p : Str × Str) : Bool := match lkE es p.1, lkE es p.2 with
  | some u, some (.ref C) => PySem.W.exmOne K u (.ref C) == some true
  | _, _ => false
/-- an own class with an own __init__ over ValueError -/
def xgC (K : PySem.W.Frag) (C : Addr) : Bool := match K.lookup C with
  | some ⟨.type "type", _, .cls cd, sl⟩ => (match cd.mro, sl.toList with
    | .ref C' :: bm, [_, _, _, _, some (.builtin n), _] => C' == C && n == "ValueError.__new__" && !cd.hasDel && cd.hasDict && PySem.HandSPX.refsVE bm
    | _, _ => false)
  | _ => false
def xgB (K : PySem.W.Frag) (C : Addr) (fl : Str) (f : Addr) : Bool := xgC K C && (PySem.W.findIn K (.ref C) "__setattr__" == some (some (.builtin "object.__setattr__")) &&
  (PySem.W.findIn K (.ref C) "__getattribute__" == some (some (.builtin "BaseException.__getattribute__")) && (PySem.W.findIn K (.ref C) "__getattr__" == some none && (PySem.W.findIn K (.ref C) fl == some none &&
  (PySem.W.findIn K (.ref C) "__init__" == some (some (.ref f)) && (PySem.W.typeIn K (.ref f) == some (.type "function") && (PySem.W.keepIn K (.ref C) && (PySem.W.subIn K (.ref C) (.type "BaseException") == some true &&
  (PySem.W.typeIn K (.ref C) == some (.type "type") && (PySem.W.hasDictIn K C && PySem.W.exmOne K (.ref C) (.ref C) == some true))))))))))
/-- a class whose instances isinstance asks -/
def exB (K : PySem.W.Frag) (C : Addr) : Bool := PySem.W.findIn K (.ref C) "__getattribute__" == some (some (.builtin "BaseException.__getattribute__")) && (PySem.W.findIn K (.ref C) "__getattr__" == some none &&
  (PySem.W.subIn K (.ref C) (.type "BaseException") == some true && (PySem.W.hasDictIn K C && (PySem.W.findIn K (.ref C) "__class__" == some (some (.builtin "object.__class__")) &&
  (PySem.W.specialIn K (.builtin "object.__class__") "__get__" == some (some (.builtin "getset_descriptor.__get__")) && (PySem.W.takesIn K (.builtin "object.__class__") == some true && PySem.W.mroIn K C (.type "object") == some true))))))
def exE (K : PySem.W.Frag) (es : List DictEntry) (x : Str) : Bool := match lkE es x with
  | some (.ref C) => exB K C
  | _ => false
def kisE (K : PySem.W.Frag) (es : List DictEntry) (p : Str × Str × Bool) : Bool := match lkE es p.1, lkE es p.2.1 with
  | some u, some (.ref C) => PySem.W.kitOne K u (.ref C) == some p.2.2
  | _, _ => false
def kibE (K : PySem.W.Frag) (es : List DictEntry) (p : Str × String × Bool) : Bool := match lkE es p.1 with
  | some u => PySem.W.kitOne K u (.type p.2.1) == some p.2.2
  | _ => false
/-- the __init__ of a class as the heap has it -/
def iniV (K : PySem.W.Frag) (es : List DictEntry) (i : Str × Str × Str × Stmt) : Bool × He.FnV := match lkE es i.1 with
  | some (.ref C) => (match PySem.W.findIn K (.ref C) "__init__" with
    | some (some (.ref f)) => (match K.lookup f with
      | some ⟨_, _, .func fd, _⟩ => (xgB K C i.2.1 f && PySem.W.codeIn K fd.code i.2.2.1, some (fd.name, fd.qualname, fd.params, fd.body, fd.scope, fd.globals, fd.closure, fd.defaults, fd.builtins))
      | _ => (false, none))
    | _ => (false, none))
  | _ => (false, none)
def iniD (i : Str × Str × Str × Stmt) : He.FnV := some (("__init__" : Str), i.2.2.1, defArgs i.2.2.2, .stmts (defBody i.2.2.2), defScope i.2.2.2, mainGlobals, [], .none, builtinsNs)
abbrev HdA : Type := Bool × List (Bool × He.FnV)
def sysB (K : PySem.W.Frag) : Bool := match K.lookup sysModules with
  | some ⟨.type c, _, _, _⟩ => decide (c = "dict")
  | _ => false
def Hd.obsK (z : Hd) (g : Addr → Option Obj) (es : List DictEntry) (K : PySem.W.Frag) : HdA :=
  (!es.any (·.refKey) && (z.free.all (fun x => (lkE es x).isNone) && (z.blt.all (bltB es) && (z.cons.all (conB g es) && (z.cls.all (xcE K es) && (z.prs.all (prE K es) && (z.exs.all (exE K es) && (z.kis.all (kisE K es) && (z.kib.all (kibE K es) && (!z.sys || sysB K))))))))), (z.defs.map fun d => defV g es d.1) ++ z.ini.map (iniV K es))
def Hd.obsE (z : Hd) (g : Addr → Option Obj) (es : List DictEntry) : HdA := z.obsK g es (He.frG g (sysModules :: clsAs g es (z.cls ++ z.exs) ++ asOf g es))
def Hd.obsG (z : Hd) (g : Addr → Option Obj) : HdA := match g mainGlobals with
  | some ⟨_, _, .dict es _, _⟩ => z.obsE g es.toList
  | _ => (false, [])
def Hd.val (z : Hd) : HdA := (true, (z.defs.map fun d => (true, (hdD d).val)) ++ z.ini.map fun i => (true, iniD i))
/-- a def stands in the module -/
def DefK (K : PySem.W.Frag) (d : Str × Stmt) : Prop := ∃ (f : Addr) (oc : Value) (od : Option Addr) (osl : Array (Option Value)) (kV doc pm : Value) (an : Option Addr) (cdv ct : Value), PySem.W.nsIn K mainGlobals d.1 = some (some (.ref f)) ∧
  K.lookup f = some ⟨oc, od, .func (PySem.W.fnOf d.1 d.1 (defArgs d.2) (defBody d.2) (defScope d.2) .none kV doc pm an cdv ct), osl⟩ ∧ PySem.W.codeIn K cdv d.1 = true
structure Hd.Says (z : Hd) (K : PySem.W.Frag) : Prop where
  d : ∀ d ∈ z.defs, DefK K d
  f : ∀ x ∈ z.free, PySem.W.nsIn K mainGlobals x = some none
  b : ∀ x ∈ z.blt, PySem.W.nsIn K mainGlobals x.1 = some (some (.builtin x.2))
  c : ∀ c ∈ z.cons, ∃ u, PySem.W.nsIn K mainGlobals c.1 = some (some u) ∧ GRep K c.2 u
  x : ∀ x ∈ z.cls, ∃ C, PySem.W.nsIn K mainGlobals x = some (some (.ref C)) ∧ xcB K C = true
  p : ∀ p ∈ z.prs, ∃ u C, PySem.W.nsIn K mainGlobals p.1 = some (some u) ∧ PySem.W.nsIn K mainGlobals p.2 = some (some (.ref C)) ∧ PySem.W.exmOne K u (.ref C) = some true
  i : ∀ i ∈ z.ini, ∃ (C f : Addr) (oc : Value) (od : Option Addr) (osl : Array (Option Value)) (kV doc pm : Value) (an : Option Addr) (cdv ct : Value), PySem.W.nsIn K mainGlobals i.1 = some (some (.ref C)) ∧ xgB K C i.2.1 f = true ∧
    K.lookup f = some ⟨oc, od, .func (PySem.W.fnOf "__init__" i.2.2.1 (defArgs i.2.2.2) (defBody i.2.2.2) (defScope i.2.2.2) .none kV doc pm an cdv ct), osl⟩ ∧ PySem.W.codeIn K cdv i.2.2.1 = true
  e : ∀ x ∈ z.exs, ∃ C, PySem.W.nsIn K mainGlobals x = some (some (.ref C)) ∧ exB K C = true
  ki : ∀ p ∈ z.kis, ∃ u C, PySem.W.nsIn K mainGlobals p.1 = some (some u) ∧ PySem.W.nsIn K mainGlobals p.2.1 = some (some (.ref C)) ∧ PySem.W.kitOne K u (.ref C) = some p.2.2
  sy : z.sys = true → ∃ o, K.lookup sysModules = some o ∧ o.cls = .type "dict"
  kb : ∀ p ∈ z.kib, ∃ u, PySem.W.nsIn K mainGlobals p.1 = some (some u) ∧ PySem.W.kitOne K u (.type p.2.1) = some p.2.2
theorem frG_has {g : Addr → Option Obj} {a : Addr} {o : Obj} (h : g a = some o) : ∀ {as : List Addr}, a ∈ as → (He.frG g as).lookup a = some o
  | [], q => nomatch q
  | b :: r, q => by
    unfold He.frG
    rw [List.filterMap_cons]
    by_cases e : a = b
    · subst e
      rw [h]
      show List.lookup a ((a, o) :: _) = some o
      rw [List.lookup_cons]
      simp
    · have q2 : a ∈ r := (List.mem_cons.mp q).resolve_left e
      have ih := frG_has h q2
      cases gb : g b with
      | none => exact ih
      | some ob =>
        show List.lookup a ((b, ob) :: _) = some o
        rw [List.lookup_cons]
        have nb : (a == b) = false := by simpa using e
        rw [nb]
        exact ih
theorem map_same {α β : Type} {f g : α → β} : ∀ {l : List α}, l.map f = l.map g → ∀ x ∈ l, f x = g x
  | [], _, _, h => nomatch h
  | y :: r, e, x, h => by
    rw [List.map_cons, List.map_cons, List.cons.injEq] at e
    rcases List.mem_cons.mp h with rfl | h
    · exact e.1
    · exact map_same e.2 x h
theorem Hd.of_obs {z : Hd} {g : Addr → Option Obj} (e : z.obsG g = z.val) : ∃ as : List Addr, z.Says (He.frG g as) := by
  unfold Hd.obsG at e
  split at e
  · rename_i oc od es en osl hm
    refine ⟨sysModules :: clsAs g es.toList (z.cls ++ z.exs) ++ asOf g es.toList, ?_⟩
    unfold Hd.obsE Hd.val at e
    generalize hK : He.frG g (sysModules :: clsAs g es.toList (z.cls ++ z.exs) ++ asOf g es.toList) = K at e ⊢
    unfold Hd.obsK at e
    have has : ∀ {a : Addr} {o : Obj}, a ∈ asOf g es.toList → g a = some o → K.lookup a = some o := fun h q => by rw [← hK]; exact frG_has q (List.mem_append_right _ h)
    have lm : K.lookup mainGlobals = some ⟨oc, od, .dict es en, osl⟩ := has (List.mem_cons_self) hm
    obtain ⟨e1, e2⟩ := Prod.mk.inj e
    obtain ⟨e2, e4⟩ := List.append_inj e2 (by simp)
    simp only [Bool.and_eq_true, Bool.not_eq_true'] at e1
    obtain ⟨r1, r2, r3, r4, r5, r6, r7, r8, r9, r10⟩ := e1
    have ns : ∀ x : Str, PySem.W.nsIn K mainGlobals x = some (lkE es.toList x) := fun x => by
      unfold PySem.W.nsIn lkE
      rw [lm]
      simp only
      cases q : es.toList.find? (·.key.isStr x) with
      | some v => rfl
      | none =>
        simp only
        rw [r1]
        rfl
    have inE : ∀ {x : Str} {u : Value}, lkE es.toList x = some u → ∃ en ∈ es.toList, en.val = u := fun {x u} h => by
      unfold lkE at h
      obtain ⟨en, h1, h2⟩ := Option.map_eq_some_iff.mp h
      exact ⟨en, List.mem_of_find?_eq_some h1, h2⟩
    refine ⟨fun d hd => ?_, fun x hx => ?_, fun x hx => ?_, fun c hc => ?_, fun x hx => ?_, fun p hp => ?_, fun i hi => ?_, fun x hx => ?_, fun p hp => ?_, fun hs => ?_, fun p hp => ?_⟩
    · have e3 := map_same e2 d hd
      unfold defV at e3
      split at e3
      · rename_i f hf
        obtain ⟨en, me, ev⟩ := inE hf
        split at e3
        · rename_i oc2 od2 fd osl2 gf
          obtain ⟨n1, n2, n3, n4, n5, n6, n7, n8, n9, n10, n11, n12, n13, n14, n15⟩ := fd
          obtain ⟨c1, c2⟩ := Prod.mk.inj e3
          have c3 : (some (n1, n2, n3, n4, n5, n6, n7, n8, n15) : He.FnV) = some (d.1, d.1, defArgs d.2, .stmts (defBody d.2), defScope d.2, mainGlobals, [], .none, builtinsNs) := c2
          simp only [Option.some.injEq, Prod.mk.injEq] at c3
          obtain ⟨h1, h2, h3, h4, h5, h6, h7, h8, h9⟩ := c3
          subst h1 h2 h3 h4 h5 h6 h7 h8 h9
          have mf : f ∈ asOf g es.toList := List.mem_cons_of_mem _ (List.mem_flatMap.mpr ⟨en, me, by rw [ev]; simp [adV]⟩)
          refine ⟨f, oc2, od2, osl2, n9, n10, n11, n12, n13, n14, by rw [ns, hf], has mf gf, ?_⟩
          have c4 : codB g n13 d.1 = true := c1
          unfold codB at c4
          unfold PySem.W.codeIn
          cases n13 with
          | ref c =>
            simp only at c4 ⊢
            have mc : c ∈ asOf g es.toList := List.mem_cons_of_mem _ (List.mem_flatMap.mpr ⟨en, me, by rw [ev]; simp [adV, gf]⟩)
            cases gc : g c with
            | none => rw [gc] at c4; cases c4
            | some o =>
              rw [gc] at c4
              rw [has mc gc]
              exact c4
          | _ => cases c4
        · exact absurd (Prod.mk.inj e3).1 (by decide)
      · exact absurd (Prod.mk.inj e3).1 (by decide)
    · have q := List.all_eq_true.mp r2 x hx
      rw [ns, Option.isNone_iff_eq_none.mp q]
    · have q := List.all_eq_true.mp r3 x hx
      unfold bltB at q
      split at q
      · rename_i m hm2
        rw [ns, hm2, of_decide_eq_true q]
      · cases q
    · have q := List.all_eq_true.mp r4 c hc
      unfold conB at q
      split at q
      · rename_i u hu
        obtain ⟨en, me, ev⟩ := inE hu
        refine ⟨u, by rw [ns, hu], repB_ok (g := g) (fun a ha o ho => has (List.mem_cons_of_mem _ (List.mem_flatMap.mpr ⟨en, me, by rw [ev]; exact List.mem_append.mpr (.inr ha)⟩)) ho) q⟩
      · cases q
    · have q := List.all_eq_true.mp r5 x hx
      unfold xcE at q
      split at q
      · rename_i C hC
        exact ⟨C, by rw [ns, hC], q⟩
      · cases q
    · have q := List.all_eq_true.mp r6 p hp
      unfold prE at q
      split at q
      · rename_i u C h1 h2
        exact ⟨u, C, by rw [ns, h1], by rw [ns, h2], beq_iff_eq.mp q⟩
      · cases q
    · have e3 := map_same e4 i hi
      unfold iniV at e3
      split at e3
      · rename_i C hC
        split at e3
        · rename_i f hf
          split at e3
          · rename_i oc2 od2 fd osl2 gf
            obtain ⟨n1, n2, n3, n4, n5, n6, n7, n8, n9, n10, n11, n12, n13, n14, n15⟩ := fd
            obtain ⟨c1, c2⟩ := Prod.mk.inj e3
            have c3 : (some (n1, n2, n3, n4, n5, n6, n7, n8, n15) : He.FnV) = some (("__init__" : Str), i.2.2.1, defArgs i.2.2.2, .stmts (defBody i.2.2.2), defScope i.2.2.2, mainGlobals, [], .none, builtinsNs) := c2
            simp only [Option.some.injEq, Prod.mk.injEq] at c3
            obtain ⟨h1, h2, h3, h4, h5, h6, h7, h8, h9⟩ := c3
            subst h1 h2 h3 h4 h5 h6 h7 h8 h9
            rw [Bool.and_eq_true] at c1
            exact ⟨C, f, oc2, od2, osl2, n9, n10, n11, n12, n13, n14, by rw [ns, hC], c1.1, gf, c1.2⟩
          · exact absurd (Prod.mk.inj e3).1 (by decide)
        · exact absurd (Prod.mk.inj e3).1 (by decide)
      · exact absurd (Prod.mk.inj e3).1 (by decide)
    · have q := List.all_eq_true.mp r7 x hx
      unfold exE at q
      split at q
      · rename_i C hC
        exact ⟨C, by rw [ns, hC], q⟩
      · cases q
    · have q := List.all_eq_true.mp r8 p hp
      unfold kisE at q
      split at q
      · rename_i u C h1 h2
        exact ⟨u, C, by rw [ns, h1], by rw [ns, h2], beq_iff_eq.mp q⟩
      · cases q
    · rw [hs, Bool.not_true, Bool.false_or] at r10
      unfold sysB at r10
      split at r10
      · rename_i c _ _ _ hk
        exact ⟨_, hk, by rw [of_decide_eq_true r10]⟩
      · cases r10
    · have q := List.all_eq_true.mp r9 p hp
      unfold kibE at q
      split at q
      · rename_i u h1
        exact ⟨u, by rw [ns, h1], beq_iff_eq.mp q⟩
      · cases q
  · exact absurd (Prod.mk.inj e).1 (by decide)
def Hd.hook (z : Hd) : PySem.W.Hook where
  α := HdA
  obs := fun s => z.obsG s.heap.get?
  val := fun _ => z.val
  says := fun _ h => ∃ K : PySem.W.Frag, K.In h ∧ z.Says K
  of := fun _ _ e => let ⟨_, c⟩ := Hd.of_obs e; ⟨_, He.frG_in, c⟩
  keeps := fun _ _ _ ⟨K, hK, c⟩ k => ⟨K, PySem.W.Frag.In.keeps hK k, c⟩
theorem Hd.obs_eq {z : Hd} {g : Addr → Option Obj} {s : Shared} (h : ∀ a, g a = s.heap.get? a) : z.obsG g = z.hook.obs s := by
  have e : g = s.heap.get? := funext h
  rw [e] <;> rfl
section
variable {z : Hd} {K : PySem.W.Frag} {h : Heap} {mg : Str → Option Value}
theorem Hd.Says.df (X : K.In h) (G : h.Ns mainGlobals mg) (c : z.Says K) (i : Nat) {x : Str} {st : Stmt} (e : z.defs[i]? = some (x, st) := by rfl) : Df K mg x st := by
  obtain ⟨f, oc, od, osl, kV, doc, pm, an, cdv, ct, h1, l, cd⟩ := c.d _ (List.mem_of_getElem? e)
  exact ⟨_, _, fun_mk (st := st) l cd (by unfold PySem.W.keepIn; simp only at l ⊢; rw [l]), PySem.W.mg_of X G h1⟩
theorem Hd.Says.fr (X : K.In h) (G : h.Ns mainGlobals mg) (c : z.Says K) (i : Nat) {x : Str} (e : z.free[i]? = some x := by rfl) : mg x = none :=
  PySem.W.mg_none_of X G (c.f _ (List.mem_of_getElem? e))
theorem Hd.Says.bf (X : K.In h) (G : h.Ns mainGlobals mg) (c : z.Says K) (i : Nat) {x : Str} {m : String} (e : z.blt[i]? = some (x, m) := by rfl) : mg x = some (.builtin m) :=
  PySem.W.mg_of X G (c.b _ (List.mem_of_getElem? e))
theorem Hd.Says.gc (X : K.In h) (G : h.Ns mainGlobals mg) (c : z.Says K) (i : Nat) {x : Str} {d : D} (e : z.cons[i]? = some (x, d) := by rfl) : GC K mg x d := by
  obtain ⟨u, h1, h2⟩ := c.c _ (List.mem_of_getElem? e)
  exact gc_of X G h1 h2
end
theorem g_walkE {l : PySem.W.OpenLaw} {n k : Nat} {q : Program} {loose : List Str} {XP : (Str → Option Value) → Heap → Prop} {YP : World → Heap → Prop} {d : DefRec} {x y : Str} {sem : Sem} (hn : l.most = some n) (hn2 : n ≤ sizeLine) (hdf : d.params.defaults = [])
    (hr : Room k callerA) (hx : d.name = x)
    (F : ∀ (w : World) (mg : Str → Option Value) (h : Heap), YP w h → h.Ns mainGlobals mg → ∃ K : PySem.W.Frag, K.In h ∧ ∀ base : Heap, K.In base → base.Ns mainGlobals mg → Ok l.prog w K mg base k x [y] sem)
    (hs : ∀ ns : List Int, ns.length ≤ n → sem [.val (scrD ns)] [] fun r _ => r = .bl true) : PySem.W.WalkO q loose XP YP l.row.toRowW d [] (fun f vs => PySem.call f vs) := by
  refine Att.attach_call hn hdf fun w s0 s1 mg mb fa o pm cd doc a vs ns G Y ho hd hcd hmg hobj hints hlen hg => ?_
  obtain ⟨K, KX, hF⟩ := F w mg _ Y G.T.g
  subst hx
  obtain ⟨f, fd, h1, h2, h3, h4, h5, oc, od, osl, lk⟩ := hF _ KX G.T.g
  cases hmg.symm.trans h1
  refine g_law (x := y) (fd := fd) (sp := spD K 1 sem) (CX := CX0) KX G.T.g G.T.b G.T.builtins G.T.nolimit hg hobj hints (Nat.le_trans hlen hn2) hr (fun base h h' => ?_) (fun u => ?_) (fun H hO hS => ?_) fun H e s' z => z
  · obtain ⟨f2, fd2, k1, k2, k3, k4, k5, oc2, od2, osl2, lk2⟩ := hF base h h'
    cases hmg.symm.trans k1
    rw [lk] at lk2
    cases lk2
    exact k5
  · exact h3 s1 [u] KX rfl
  · exact ⟨rfl, H, none, [], [.val (scrD ns)], _, .val (.scr hS (scr_rep ns)) .nil, ⟨Same.refl _, fun _ z => nomatch z⟩, hs ns hlen, fun v H' F' d T' _ _ r q => by subst q; cases r; rfl⟩
end L2.G

namespace L2.G
open PySem PySem.Spec PyProof.Rows
/-! sorted(set(xs)), xs a list of tuples of ints of either sign -/
def TupH (h : Heap) (p : Addr × List Int) : Prop := ∃ o xs n, h.get? p.1 = some o ∧ o.cls = .type "tuple" ∧ o.data = .seq xs n ∧ Vals (p.2.map V.int) xs.toList
theorem TupH.keep {h h' : Heap} {p : Addr × List Int} (k : ∀ b o, h.get? b = some o → h'.get? b = some o) : TupH h p → TupH h' p :=
  fun ⟨o, xs, n, g, r⟩ => ⟨o, xs, n, k _ _ g, r⟩
theorem TupH.ky {h : Heap} {p : Addr × List Int} (x : TupH h p) : PyProof.Rows.G.tupKeyC h noS (.ref p.1) = some (kyI p.2) := by
  obtain ⟨o, xs, n, g, c, d, v⟩ := x
  have e := items_ky p.2 _ 0 v
  have t : PyProof.Rows.G.isTupObj h (.ref p.1) = true := by
    unfold PyProof.Rows.G.isTupObj
    simp only [g, c]
    decide
  unfold PyProof.Rows.G.tupKeyC
  rw [if_pos t]
  unfold PyProof.Rows.tupKey
  simp only [g, d]
  exact e
theorem TupH.first {h : Heap} : ∀ (L : List (Addr × List Int)), (∀ p ∈ L, TupH h p ∧ p.2 ≠ []) → ∃ fs, PyProof.Rows.TupsOf h noS (L.map fun p => Value.ref p.1) fs
  | [], _ => ⟨[], .nil⟩
  | p :: L, q => by
    obtain ⟨fs, ih⟩ := TupH.first L fun r hr => q r (List.mem_cons_of_mem _ hr)
    obtain ⟨⟨o, xs, n, g, c, d, v⟩, h2⟩ := q p List.mem_cons_self
    obtain ⟨m, r, er⟩ := List.exists_cons_of_ne_nil h2
    rw [er] at v
    obtain ⟨u, us, ex⟩ : ∃ u us, xs.toList = u :: us := by
      cases z : xs.toList with
      | nil => rw [z] at v; cases v
      | cons u us => exact ⟨u, us, rfl⟩
    rw [ex] at v
    have hu : ∃ t, u = .int m t := by
      cases v with
      | cons r _ => exact r
    obtain ⟨t, rfl⟩ := hu
    have g0 : xs[0]? = some (.int m t) := by rw [← Array.getElem?_toList, ex]; rfl
    exact ⟨_, .cons ⟨p.1, o, xs, n, rfl, g, c, d, g0, fun _ => ⟨m, t, rfl⟩, fun z => nomatch z⟩ ih⟩
def rSortSX (K : PySem.W.Frag) (P : Program) (w : World) : List V → Hp → VK → Prop := fun vs H Q => ∃ (a : Addr) (L : List (Addr × List Int)) (d : Nat), vs = [.ref a] ∧ H a = some (SetTO P w a L) ∧ (∀ p ∈ L, SqT K H p.1 (p.2.map V.int) ∧ p.2.length = d) ∧ 1 ≤ d ∧
  ∀ (L' : List (Addr × List Int)) (b : Addr), L'.Perm L → (L'.map (·.2)).Nodup → L'.Pairwise (fun x y => lexLt y.2 x.2 = false) → H b = none → Q (.ref b) (upd H b (.lst (L'.map fun p => V.ref p.1)))
theorem cr_sortSX {X : Cx} (hc : X.calm = true) : CallR X (.builtin "sorted") (rSortSX X.K X.prog X.w) := by
  intro pins s σ H vs us Q I r ⟨a, L, d, e, ha, tp, d1, fin⟩
  subst e
  obtain ⟨es, ep, t, R⟩ := SetT0.full (I.hok a _ ha).1 fun p hp => I.isT (tp p hp).1
  obtain ⟨o, ho, hex, hd⟩ := R.ob
  rw [Vals.ref1 r]; refine Calls.call_function_entry kind_sorted plain_sorted entry_sorted (args_sorted1 (Value.ref a)) ?go
  have few := R.few; have size := R.size
  unfold Builtin.«sorted»; refine wpAny_bind (m := checkCount "sorted" 1 1 _) (wpAny_pure ?_)
  refine wpAny_bind (collect_set (A := X.A.in1) (I.ok.hd hc) ⟨o, ho, hex.1, hd⟩ R.fits (by unfold scanBound; omega) R.tab.ris R.led fun s1 vs k1 hz g1 o1 pm => ?_)
  have es2 : es.toList.map (·.2) = L.map fun q => Value.ref q.1 := by
    rw [R.rows, rowsOf, List.map_map]
    rfl
  rw [es2] at pm
  obtain ⟨L1, pL1, rfl⟩ := perm_map_ex pm
  have l64 : L1.length < 64 := by rw [pL1.length_eq]; exact few
  have lim : (L1.map fun p => Value.ref p.1).length ≤ sizeLine := by rw [List.length_map, sizeLine_eq]; omega
  refine wpAny_bind (wpAny_newList ?_ lim)
  have k2 : ∀ b o, s1.heap.get? b = some o → (s1.heap.push (seqObj "list" (L1.map fun p => Value.ref p.1).toArray 0)).get? b = some o := fun b o e => Heap.get?_push_of_some _ e
  have at0 : (s1.heap.push (seqObj "list" (L1.map fun p => Value.ref p.1).toArray 0)).get? s1.heap.objs.size = some (seqObj "list" (L1.map fun p => Value.ref p.1).toArray 0) := Heap.get?_push_size _ rfl
  have th : ∀ p ∈ L, TupH (s1.heap.push (seqObj "list" (L1.map fun p => Value.ref p.1).toArray 0)) p := fun p hp => by
    obtain ⟨o, xs, n, g, r⟩ := tup_obj I (tp p hp).1
    exact ⟨o, xs, n, k2 _ _ (k1 _ _ g), r⟩
  have mem1 : ∀ p ∈ L1, p ∈ L := fun p hp => pL1.mem_iff.mp hp
  obtain ⟨fs, ht⟩ := TupH.first L1 fun p hp => ⟨th p (mem1 p hp), fun z => by have := (tp p (mem1 p hp)).2; rw [z] at this; simp at this; omega⟩
  refine wpAny_bind (wpAny_holding (wpAny_call_entry slot_list_sort ⟨_, at0, rfl⟩ entry_list_sort (PyProof.Rows.G.list_sort_tups (s := { s1 with heap := s1.heap.push (seqObj "list" (L1.map fun p => Value.ref p.1).toArray 0) }) at0 ht (fun v hv => ?_) lim fun st pm so _ => ⟨_, rfl, ?_⟩) (args_list_sort (Value.ref s1.heap.objs.size))))
  · obtain ⟨p, hp, rfl⟩ := List.mem_map.mp hv
    exact ⟨_, (th p (mem1 p hp)).ky⟩
  have e0 : (PyProof.Rows.pairsOf (L1.map fun p => Value.ref p.1)).toList = L1.map fun p => (Value.ref p.1, Value.ref p.1) := by rw [PyProof.Rows.pairsOf_toList]; exact zip_own L1
  have pm2 : (arrOf st).toList.Perm (L1.map fun p => (Value.ref p.1, Value.ref p.1)) := by rw [← e0]; exact pm.toList
  obtain ⟨L', pL, eL⟩ := perm_map_ex pm2
  have mem : ∀ p ∈ L', p ∈ L := fun p hp => mem1 p (pL.mem_iff.mp hp)
  have at_ : ∀ i (hi : i < L'.length), PyProof.Rows.KK (PyProof.Rows.G.tupKindC (s1.heap.push (seqObj "list" (L1.map fun p => Value.ref p.1).toArray 0)) noS) (arrOf st) i = kyI (L'[i]).2 := fun i hi => by
    have g : (arrOf st)[i]? = some (Value.ref (L'[i]).1, Value.ref (L'[i]).1) := by rw [← Array.getElem?_toList, eL, List.getElem?_map, List.getElem?_eq_getElem hi]; rfl
    unfold PyProof.Rows.KK
    rw [g]
    show ((PyProof.Rows.G.tupKeyC _ noS (.ref (L'[i]).1)).getD _) = _
    rw [(th _ (mem _ (List.getElem_mem hi))).ky]
    rfl
  have sz : (PyProof.Rows.pairsOf (L1.map fun p => Value.ref p.1)).size = L'.length := by rw [← Array.length_toList, e0, List.length_map, pL.length_eq]
  have pw : L'.Pairwise (fun x y => lexLt y.2 x.2 = false) := by
    rw [List.pairwise_iff_getElem]
    intro i j hi hj ij
    have h := so i j (Nat.le_of_lt ij) (by rw [sz]; exact hj)
    rw [at_ i hi, at_ j hj] at h
    have dl : ∀ n (hn : n < L'.length), (L'[n]).2.length = d := fun n hn => (tp _ (mem _ (List.getElem_mem hn))).2
    rw [← kyI_lex (by rw [dl i hi, dl j hj])]
    exact h
  have eo : ((arrOf st).map (·.2)).toList = L'.map fun p => Value.ref p.1 := by rw [Array.toList_map, eL, List.map_map]; rfl
  obtain ⟨c, at2⟩ := PyProof.Rows.sortedHeap_at (vs := L1.map fun p => Value.ref p.1) (out := (arrOf st).map (·.2)) at0
  have kept : ∀ b u, s.heap.get? b = some u → (sortedHeap (s1.heap.push (seqObj "list" (L1.map fun p => Value.ref p.1).toArray 0)) s1.heap.objs.size (L1.map fun p => Value.ref p.1) ((arrOf st).map (·.2))).get? b = some u := fun b u e => by
    have lt := Heap.lt_size (k1 b u e)
    rw [PyProof.Rows.sortedHeap_old (Nat.ne_of_lt lt) (Nat.lt_of_lt_of_le lt (by rw [size_push']; exact Nat.le_succ _))]
    exact k2 _ _ (k1 b u e)
  generalize sortedHeap (s1.heap.push (seqObj "list" (L1.map fun p => Value.ref p.1).toArray 0)) s1.heap.objs.size (L1.map fun p => Value.ref p.1) ((arrOf st).map (·.2)) = hF at at2 kept ⊢
  generalize (arrOf st).map (·.2) = out at eo at2
  have free : H s1.heap.objs.size = none := I.hok.fresh hz
  have short : (L'.map fun q => V.ref q.1).length ≤ sizeLine := by rw [List.length_map, pL.length_eq, sizeLine_eq]; omega
  have J : Inv X pins σ (upd H s1.heap.objs.size (.lst (L'.map fun q => V.ref q.1))) { s with heap := hF, gens := s1.gens, drawn := s1.drawn, toks := s1.toks } :=
    I.call (ch := []) (Un.laid kept hz free) (I.hok.laid kept hz ⟨short, out.toList, c, by rw [eo]; exact vals_of_refs L', at2⟩) (by rw [g1]; exact I.bare) (fun _ z => nomatch z)
  have es1 : ({ s1 with heap := hF } : Shared) = { s with heap := hF, gens := s1.gens, drawn := s1.drawn, toks := s1.toks } := by
    cases s1
    cases s
    cases o1
    rfl
  have nd : (L'.map (·.2)).Nodup := ((pL.trans pL1).map (·.2)).nodup_iff.mpr R.nd
  refine wpAny_pure ⟨_, rfl, ?_⟩
  show EP X pins σ Q _ { s1 with heap := hF }
  rw [es1]
  exact ⟨.ref s1.heap.objs.size, _, J, rfl, fin L' _ (pL.trans pL1) nd pw free⟩
def dedL : List (List Int) → List (List Int)
  | [] => []
  | x :: r => if x ∈ r then dedL r else x :: dedL r
theorem dedL_mem {y : List Int} : ∀ {l : List (List Int)}, y ∈ dedL l ↔ y ∈ l
  | [] => Iff.rfl
  | x :: r => by
    unfold dedL
    have ih := dedL_mem (y := y) (l := r)
    split
    · rename_i h
      rw [ih, List.mem_cons]
      exact ⟨.inr, fun q => q.elim (fun e => e ▸ h) id⟩
    · rw [List.mem_cons, List.mem_cons, ih]
theorem dedL_nodup : ∀ l : List (List Int), (dedL l).Nodup
  | [] => List.nodup_nil
  | x :: r => by
    unfold dedL
    split
    · exact dedL_nodup r
    · rename_i h
      exact List.nodup_cons.mpr ⟨fun q => h (dedL_mem.mp q), dedL_nodup r⟩
def stS : Option (List (List Int)) → PD | some nss => some (TupsD nss, .lst ((isort (dedL nss)).map tI)) | none => none
def fSortS : List D → PD | [.lst xs] => stS (tups? xs) | _ => none
theorem fSortS_lst {xs : List D} : fSortS [.lst xs] = stS (tups? xs) := rfl
theorem stS_some {n : List (List Int)} : stS (some n) = some (TupsD n, .lst ((isort (dedL n)).map tI)) := rfl
def oSortS (ds : List D) (k : D → Prop) : Prop := match ds with | [.lst xs] => (match tups? xs with | some nss => TupsD nss ∧ k (.lst ((isort (dedL nss)).map tI)) | none => False) | _ => False
def rSS (K : PySem.W.Frag) (P : Program) (w : World) : List V → Hp → VK → Prop := fun vs H Q => rSetOfT K P w vs H fun v H1 => rSortSX K P w [v] H1 Q
theorem oSortS_ok {K : PySem.W.Frag} {P : Program} {w : World} : BltS K (rSS K P w) oSortS := by
  intro t F H T ds vs k Q wt r q f
  unfold oSortS at q
  split at q
  · split at q
    · rename_i nss e
      cases r with
      | cons r rr =>
        cases rr
        obtain ⟨a, ws, rfl, h, r⟩ := rep_lst r
        obtain ⟨⟨n64, d, d1, dl⟩, q⟩ := q
        obtain ⟨L, rfl, hn, hs⟩ := tups_rep r e
        have inn : ∀ p ∈ L, p.2.length = d := fun p hp => dl _ (by rw [hn]; exact List.mem_map.mpr ⟨p, hp, rfl⟩)
        refine ⟨a, L, rfl, .of (wt.sub _ _ h), fun p hp => same_t wt.sub (hs p hp), by rw [hn, List.length_map] at n64; exact n64, fun b M hb m1 m2 => ?_⟩
        have wt1 := wt_own (o := SetTO P w b M) wt hb
        have g1 := grow_own (t := t) (o := SetTO P w b M) wt.sub hb
        refine ⟨b, M, d, rfl, upd_same, fun p hp => ⟨same_t wt1.sub (hs p (m1 p hp)), inn p (m1 p hp)⟩, d1, fun L' c pL nd pw hc => ?_⟩
        have e2 : L'.map (·.2) = isort (dedL nss) := by
          have pm : (L'.map (·.2)).Perm (dedL nss) := (List.perm_ext_iff_of_nodup nd (dedL_nodup _)).mpr fun y => by
            rw [dedL_mem, hn]
            constructor
            · intro hy
              obtain ⟨p, hp, rfl⟩ := List.mem_map.mp hy
              exact List.mem_map.mpr ⟨p, m1 p (pL.mem_iff.mp hp), rfl⟩
            · intro hy
              obtain ⟨p, hp, rfl⟩ := List.mem_map.mp hy
              exact (pL.map _).mem_iff.mpr (m2 p hp)
          exact srt_uniq (d := d) (fun y hy => dl y (dedL_mem.mp (pm.mem_iff.mp hy))) (pm.trans (isort_perm _).symm) (by rw [List.pairwise_map]; exact pw) (isort_srt fun y hy => dl y (dedL_mem.mp hy))
        rw [← e2] at q
        exact (f.then g1).lst wt1 (rep_tI fun p hp => hs p (m1 p (pL.mem_iff.mp hp))) hc q
    · exact q.elim
  · exact q.elim
theorem fSortS_ok {ds : List D} {k : D → Prop} (h : oG fSortS ds k) : oSortS ds k := by
  refine one_ok (f := fSortS) (o := oSortS) ?_ ?_ ?_ h
  · intro k h; exact h.elim
  · intro d k h
    cases d <;> first | exact h.elim | skip
    rename_i xs
    unfold oG fSortS at h
    unfold oSortS
    simp only at h ⊢
    match q : tups? xs with
    | none => rw [q] at h; exact h.elim
    | some n => rw [q] at h; exact h
  · intro d e r k h; cases d <;> exact h.elim
section
variable {X : Cx} {e : Expr} {fr : dA} {p p2 pos pos2 : Pos} {es : List Expr}
theorem g_sortS (hc : X.calm = true) (hu : X.A.units + 66 < cLine) (hm : X.mg "sorted" = none) (hm2 : X.mg "set" = none) (ha : PAd X [e] fr) (hg : Gl X "sorted" := by rfl) (hg2 : Gl X "set" := by rfl)
    (he : starEach [e] X.env = (false, eval e X.env) :: starEach [] X.env := by rfl) (hp : (backTo pos2 (starEach [] X.env)).any (·.1) = false := by rfl)
    (he2 : starEach [.Call (.Name "set" p2) [e] [] pos2] X.env = (false, eval (.Call (.Name "set" p2) [e] [] pos2) X.env) :: starEach [] X.env := by rfl) (hp2 : (backTo pos (starEach [] X.env)).any (·.1) = false := by rfl) :
    PEd X (.Call (.Name "sorted" p) [.Call (.Name "set" p2) [e] [] pos2] [] pos) (dBlt (oG fSortS) fr) :=
  pe_imp (pe_callB (cr_sortSX hc) hg hm (by decide +kernel) (pa_cons (pe_callTy (cr_setOfT hc (by omega)) hg2 hm2 (by decide +kernel) ha (by decide) (by decide) he hp) pa_nil he2) (by decide) (by decide) he2 hp2)
    fun σ H Q h => blt_ok (r := rSS X.K X.prog X.w) (BltS.imp oSortS_ok fun _ _ => fSortS_ok) h
end
/-! less than, for ints and for tuples of ints -/
def ltR : Option (List Int) → Option (List Int) → PD | some a, some b => some (True, .bl (HT.lexLt a b)) | _, _ => none
def fLtU : D → D → PD
  | .int i, .int j => some (True, .bl (decide (i < j)))
  | .tup xs, .tup ys => ltR (nums? xs) (nums? ys)
  | _, _ => none
theorem fLtU_int {i j : Int} : fLtU (.int i) (.int j) = some (True, .bl (decide (i < j))) := rfl
theorem fLtU_tup {xs ys : List D} : fLtU (.tup xs) (.tup ys) = ltR (nums? xs) (nums? ys) := rfl
theorem ltR_some {a b : List Int} : ltR (some a) (some b) = some (True, .bl (HT.lexLt a b)) := rfl
section
variable {X : Cx} {a b : Expr} {fa fb : dE} {pos : Pos}
end
end L2.G

namespace L2.G
open PySem PySem.Spec PyProof.Rows
/-! {"a": 1, ..}[x]: a displayed dict of texts to ints, and what stands at x -/
def lkL (kvs : List (Str × Int)) (x : Str) : Option Int := kvs.foldl (fun o c => if x = c.1 then some c.2 else o) none
def dctR (o : Option Int) (T : Tk) (k : KD) : Prop := match o with | some i => k (.int i) T | none => False
def dctK (kvs : List (Str × Int)) (d : D) (T : Tk) (k : KD) : Prop := match d with | .str x => dctR (lkL kvs x) T k | _ => False
def dDctIx (kvs : List (Str × Int)) (fe : dE) : dE := fun ρ T k => fe ρ T fun d T1 => dctK kvs d T1 k
theorem h_dctIx {kvs : List (Str × Int)} {fe : dE} {ρ : En} {T : Tk} {k : KD} : dDctIx kvs fe ρ T k = fe ρ T fun d T1 => dctK kvs d T1 k := propext Iff.rfl
end L2.G

namespace L2.G
open PySem PySem.Spec PyProof.Rows
/-! defs that may raise: a def's reading takes r, what is wished of an exception -/
/-- an exception: the name of its class, what it was given -/
structure ExD where
  nm : Str
  arg : Option (Str × D)
abbrev RK := ExD → Tk → Prop
/-- in a body: with the slots -/
abbrev RX := ExD → En → Tk → Prop
def RepE (K : PySem.W.Frag) (mg : Str → Option Value) (F H : Hp) (e : ExD) (cls : Value) (d : Option Addr) : Prop :=
  mg e.nm = some cls ∧ match e.arg with
    | none => d = none
    | some (fl, x) => ∃ dd v, d = some dd ∧ H dd = some (.xd [(fl, v)]) ∧ Rep K F x v
def FinX (K : PySem.W.Frag) (mg : Str → Option Value) (t : Option Addr) (F H : Hp) (r : RK) (E : XK) : Prop := ∀ e T' F' H' cls d, Wt K T' t F' H' → Grow t F H F' H' → RepE K mg F' H' e cls d → r e T' → E cls d H'
abbrev SemX := RK → Sem
def spX (K : PySem.W.Frag) (mg : Str → Option Value) (n : Nat) (sem : SemX) : Sp := fun vs H Q E => vs.length = n ∧ ∃ F t T as k r, ArgL K t F as vs ∧ Wt K T t F H ∧ sem r as T k ∧ Fin K t F H k Q ∧ FinX K mg t F H r E
def OkX (P : Program) (w : World) (K : PySem.W.Frag) (mg : Str → Option Value) (base : Heap) (n : Nat) (x : Str) (ps : List Str) (sem : SemX) : Prop :=
  ∃ f fd, mg x = some (.ref f) ∧ PySem.W.keepIn K (.ref f) = true ∧ Binds K fd ps [] ∧ (∀ (s : Shared) (ws : List Value), K.In s.heap → ws.length = ps.length → BindsTo s fd ⟨[], ps.zip ws⟩ (ps.zip ws)) ∧ GFn P w K mg base (L2.CX P w) n f fd ps (spX K mg ps.length sem) ∧ ∃ oc od osl, K.lookup f = some ⟨oc, od, .func fd, osl⟩
theorem OkX.mono {P : Program} {w : World} {K : PySem.W.Frag} {mg : Str → Option Value} {base : Heap} {m n : Nat} {x : Str} {ps : List Str} {sem : SemX} (h : OkX P w K mg base m x ps sem) (l : m ≤ n) : OkX P w K mg base n x ps sem :=
  let ⟨f, fd, h1, h2, h3, h4, h5, h6⟩ := h; ⟨f, fd, h1, h2, h3, h4, h5.mono l, h6⟩
theorem OkX.imp {P : Program} {w : World} {K : PySem.W.Frag} {mg : Str → Option Value} {base : Heap} {n : Nat} {x : Str} {ps : List Str} {sem sem' : SemX} (h : OkX P w K mg base n x ps sem) (i : ∀ r as T k, sem' r as T k → sem r as T k) : OkX P w K mg base n x ps sem' :=
  let ⟨f, fd, h1, h2, h3, h4, h5, h6⟩ := h; ⟨f, fd, h1, h2, h3, h4, h5.imp (fun vs H Q E ⟨q1, F, t, T, as, k, r, a, b, c, d, e⟩ => ⟨q1, F, t, T, as, k, r, a, b, i _ _ _ _ c, d, e⟩), h6⟩

/-! in a body -/
structure Ct where
  t : Option Addr
  F0 : Hp
  H0 : Hp
  F1 : Hp
section
variable {X : Cx} {c : Ct} {e : Expr} {fe fa fb : dE} {st : Stmt} {rest : List Stmt} {f g : dS} {pos : Pos} {W : WX} {r : RX}
end

/-! calls -/
section
variable {X : Cx} {CX : CXT} {n : Nat} {f : Addr} {fd : FuncData} {ps : List Str} {sp : Sp} {x : Str} {p pos : Pos} {e : Expr} {es : List Expr} {t : TA}
end
section
variable {X : Cx} {n : Nat} {x : Str} {ps : List Str} {sem : SemX} {p pos : Pos} {e : Expr} {es : List Expr} {kws : List Keyword} {fr : dA} {c : Ct} {r : RX} {W : WX}
/-- a call that may raise -/
def dCallX (n : Nat) (sem : SemX) (r : RX) (fr : dA) : dE := fun ρ T k => fr ρ T fun as T1 => as.length = n ∧ sem (fun e T => r e ρ T) as T1 k
end
/-! defs -/
/-! raise -/
/-- what an own class without own __init__ must say -/
structure Xc0 (K : PySem.W.Frag) (mg : Str → Option Value) (x : Str) (C : Addr) : Prop where
  gC : mg x = some (.ref C)
  ex : PySem.W.excIn K C PySem.HandSPX.veTail "ValueError.__new__" = true
  kC : PySem.W.keepIn K (.ref C) = true
  sb : PySem.W.subIn K (.ref C) (.type "BaseException") = some true
  ty : PySem.W.typeIn K (.ref C) = some (.type "type")
section
variable {X : Cx} {c : Ct} {pos pos2 p : Pos} {W : WX} {r : RX} {x : Str} {C : Addr}
def sRaise0 (x : Str) (r : RX) : dS := fun _ ρ T => r ⟨x, none⟩ ρ T
end

/-! try .. except X -/
section
variable {X : Cx} {x : Str} {cv : Value} {body suite : List Stmt} {b₀ : Stmt} {np pos pos' : Pos} {b : RX → dS} {s : dS} {mt : Str → Option Bool}
end
/-! a tuple some times -/
section
variable {X : Cx} {a b : Expr} {fa fb : dE} {pos : Pos}
end
end L2.G

set_option maxHeartbeats 2000000
namespace PySem
namespace XgX
open PySem.W PySem.Calls PyProof.Rows PySem.HandSPX
/-! ### the text of __init__ -/
def iA (fl : Str) (p1 p2 : Pos) : Arguments := { posonlyargs := [], args := [{ arg := "self", annotation := none, pos := p1 }, { arg := fl, annotation := none, pos := p2 }], vararg := none, kwonlyargs := [], kw_defaults := [], kwarg := none, defaults := [] }
def iB (fl : Str) (q1 q2 q3 q4 : Pos) : List Stmt := [.Assign [.Attribute (.Name "self" q1) fl q2] (.Name fl q3) q4]
def iS (fl : Str) : Scope := { kind := .function, names := [(PySem.Str.ofString "self", .local), (fl, .local)], isGenerator := false, isCoroutine := false, more := [] }
/-- what the written part says of Low, at C, and of its __init__, at fI -/
structure XgTxt (x qi fl : Str) (K : Frag) (mg : Str → Option Value) (C fI : Addr) : Prop where
  gC : mg x = some (.ref C)
  cls : ∃ nm q N bs bm sn sub ab col dd k0 k1 k2 k3 k5, K.lookup C = some (excClassObj nm q C N bs bm true sn sub ab col dd k0 k1 k2 k3 k5 "ValueError.__new__") ∧ refsVE bm = true
  sa : findIn K (.ref C) "__setattr__" = some (some (.builtin "object.__setattr__"))
  ga : findIn K (.ref C) "__getattribute__" = some (some (.builtin "BaseException.__getattribute__"))
  gg : findIn K (.ref C) "__getattr__" = some none
  hfl : fl = "given" ∨ fl = "index"
  noN : findIn K (.ref C) fl = some none
  iC : findIn K (.ref C) "__init__" = some (some (.ref fI))
  tC : typeIn K (.ref fI) = some (.type "function")
  kC : keepIn K (.ref C) = true
  exC : subIn K (.ref C) (.type "BaseException") = some true
  tyC : typeIn K (.ref C) = some (.type "type")
  hdC : hasDictIn K C = true
  te : exmOne K (.ref C) (.ref C) = some true
  fn : ∃ (oc : Value) (od : Option Addr) (kV doc pm : Value) (an : Option Addr) (cdv ct : Value) (osl : Array (Option Value)) (p1 p2 q1 q2 q3 q4 : Pos),
    K.lookup fI = some ⟨oc, od, .func (fnOf "__init__" qi (iA fl p1 p2) (iB fl q1 q2 q3 q4) (iS fl) .none kV doc pm an cdv ct), osl⟩ ∧ codeIn K cdv qi = true
/-- what __init__ leaves of a fresh exception at x -/
structure InitEnd (fl : Str) (h h' : Heap) (x C dx t1 : Addr) (v : Value) : Prop where
  keep : ∀ b o, b ≠ x → h.get? b = some o → h'.get? b = some o
  obj : h'.get? x = some { cls := .ref C, dict := some dx, data := .fields #[.ref t1, .none, .none, .none, .bool false, .none] }
  dbig : h.objs.size ≤ dx
  dne : dx ≠ x
  ns : h'.Ns1 dx (fun y => if y = fl then some v else none)
/-- a made Low -/
structure OwnMade (fl : Str) (h h' : Heap) (e C d : Addr) (v : Value) : Prop where
  keep : ∀ b o, h.get? b = some o → h'.get? b = some o
  new : h.objs.size ≤ e
  obj : ∃ oe vs, h'.get? e = some oe ∧ oe.cls = .ref C ∧ oe.dict = some d ∧ oe.data = .fields vs ∧ vs[1]? = some .none
  dbig : h.objs.size ≤ d
  dne : d ≠ e
  ns : h'.Ns1 d (fun y => if y = fl then some v else none)
section
variable {prog : Program} {w : World} {A : Around} {E : Value → Shared → Prop} {R : Result → Shared → Prop} {s : Shared} {K : Frag} {mg : Str → Option Value} {nx qi fl : Str} {C fI : Addr}
end
end XgX
end PySem
namespace L2
open PySem PySem.Spec PyProof.Rows
section
variable {X : Cx} {nx qi fl : Str} {C fI : Addr}
end
end L2

namespace L2.G
open PySem PySem.Spec PyProof.Rows
section
variable {X : Cx} {c : Ct} {pos pos2 p : Pos} {W : WX} {r : RX} {x qi fl : Str} {C fI : Addr} {e : Expr} {fe : dE} {k : Nat}
def sRaise1 (x fl : Str) (fe : dE) (r : RX) : dS := fun _ ρ T => fe ρ T fun d T1 => r ⟨x, some (fl, d)⟩ ρ T1
end
end L2.G
namespace L2.G
open PySem PySem.Spec PyProof.Rows
section
variable {X : Cx} {x n : Str} {cv : Value} {i : Nat} {body suite : List Stmt} {b₀ : Stmt} {np pos pos' : Pos} {b : RX → dS} {s : ExD → Addr → Option Addr → dS} {mt : Str → Option Bool}
end
end L2.G
namespace L2.G
open PySem PySem.Spec PyProof.Rows
section
variable {X : Cx} {nm qi fl x : Str} {C fI a : Addr} {oe : Obj} {d : Option Addr} {pn : List (Addr × Obj)} {p pos : Pos}
/-- n.given in the suite, n in slot i -/
def dGiven (fl : Str) (i : Nat) (a : Addr) (d : Option Addr) : dE := fun ρ T k => match ρ[i]? with
  | some (some (.exc a' (some (dd, fl', x)))) => a' = a ∧ d = some dd ∧ fl' = fl ∧ k x T
  | _ => False
end
end L2.G

set_option maxHeartbeats 2000000
/-! isinstance of a caught exception, with or without a dict -/
namespace PySem.W
open PySem PySem.Spec PySem.Calls PyProof.Rows
section
variable {prog : Program} {w : World} {A : Around} {E : Value → Shared → Prop} {s : Shared} {K : Frag} {x D : Addr} {ox : Obj} {od : Option Obj}
end
end PySem.W
namespace L2
open PySem PySem.Spec PyProof.Rows
end L2
namespace L2.G
open PySem PySem.Spec PyProof.Rows
section
variable {X : Cx} {x cn : Str} {a : Addr} {oe : Obj} {cls : Value} {d : Option Addr} {pn : List (Addr × Obj)} {p p2 p3 pos : Pos} {cv : Value} {cx : V} {ob : Option Bool}
/-- isinstance(n, C) in the suite, n in slot i -/
def dIsE (i : Nat) (a : Addr) (d : Option Addr) (ob : Option Bool) : dE := fun ρ T k => match ob, ρ[i]? with
  | some b, some (some (.exc a' g)) => a' = a ∧ d = g.map (·.1) ∧ k (.bl b) T
  | _, _ => False
/-- n.given in the suite -/
def dGivE (fl : Str) (i : Nat) (a : Addr) (d : Option Addr) (ok : Bool) : dE := fun ρ T k => ok = true ∧ dGiven fl i a d ρ T k
end

/-! calls that may raise within other expressions -/
section
variable {X : Cx} {c : Ct} {e a b : Expr} {es : List Expr} {fe fa fb : dE} {fr : dA} {ft : dT} {f g : dS} {pos p : Pos} {n : Nat} {x : Str} {ps : List Str} {sem : Sem}
end
end L2.G
/-! l.count(True), l.index(True) of lists of truth values -/
namespace L2
open PySem PySem.Spec PyProof.Rows
section
variable {X : Cx}
end
end L2
namespace L2.G
open PySem PySem.Spec PyProof.Rows
def cntT : List Bool → Int | [] => 0 | true :: r => cntT r + 1 | false :: r => cntT r
theorem cntT_nil : cntT [] = 0 := rfl
theorem cntT_t {r : List Bool} : cntT (true :: r) = cntT r + 1 := rfl
theorem cntT_f {r : List Bool} : cntT (false :: r) = cntT r := rfl
def idxT : List Bool → Option Nat | [] => none | true :: _ => some 0 | false :: r => (idxT r).map (· + 1)
theorem idxT_f {r : List Bool} : idxT (false :: r) = (idxT r).map (· + 1) := rfl
def cntR (g : List Bool → Option Int) (P : Prop) (o : Option (List Bool)) : PD := match o with | some bs => (match g bs with | some i => some (P, .int i) | none => none) | none => none
def fCntT : D → D → PD | .lst xs, .bl true => cntR (fun bs => some (cntT bs)) (D.eqOk (.lst xs)) (bls? xs) | _, _ => none
def fIdxT : D → D → PD | .lst xs, .bl true => cntR (fun bs => (idxT bs).map Int.ofNat) (D.eqOk (.lst xs)) (bls? xs) | _, _ => none
theorem fCntT_lst {xs : List D} : fCntT (.lst xs) (.bl true) = cntR (fun bs => some (cntT bs)) (D.eqOk (.lst xs)) (bls? xs) := rfl
theorem fIdxT_lst {xs : List D} : fIdxT (.lst xs) (.bl true) = cntR (fun bs => (idxT bs).map Int.ofNat) (D.eqOk (.lst xs)) (bls? xs) := rfl
def dMt (o : Op2) (fo fx : dE) : dE := fun ρ T k => fo ρ T fun x T1 => ∃ xs, x = .lst xs ∧ fx ρ T1 fun y T2 => o x y fun d => k d T2
section
variable {X : Cx} {o e : Expr} {fo fe : dE} {apos cpos : Pos} {n : Nat}
end
/-! walking -/
def exK (ob : Option Bool) (s : Option (Option SV)) (a : Addr) (d : Option Addr) (T : Tk) (k : KD) (fz : Fz k := ⟨⟩) : Prop := match ob, s with
  | some b, some (some (.exc a' g)) => a' = a ∧ d = g.map (·.1) ∧ k (.bl b) T
  | _, _ => False
theorem exK_0 {b : Bool} {a : Addr} {T : Tk} {k : KD} : exK (some b) (some (some (.exc a none))) a none T k = k (.bl b) T := propext ⟨fun h => h.2.2, fun h => ⟨rfl, rfl, h⟩⟩
theorem exK_1 {b : Bool} {a dd : Addr} {x : Str × D} {T : Tk} {k : KD} : exK (some b) (some (some (.exc a (some (dd, x))))) a (some dd) T k = k (.bl b) T := propext ⟨fun h => h.2.2, fun h => ⟨rfl, rfl, h⟩⟩
def gvK (fl : Str) (s : Option (Option SV)) (a : Addr) (d : Option Addr) (T : Tk) (k : KD) (fz : Fz k := ⟨⟩) : Prop := match s with
  | some (some (.exc a' (some (dd, fl', x)))) => a' = a ∧ d = some dd ∧ fl' = fl ∧ k x T
  | _ => False
theorem gvK_1 {fl : Str} {a dd : Addr} {x : D} {T : Tk} {k : KD} : gvK fl (some (some (.exc a (some (dd, fl, x))))) a (some dd) T k = k x T := propext ⟨fun h => h.2.2.2, fun h => ⟨rfl, rfl, rfl, h⟩⟩
def mtK (x : D) (F : Prop) (fz : Fz F := ⟨⟩) : Prop := ∃ xs, x = .lst xs ∧ F
theorem mtK_go {xs : List D} {F : Prop} : mtK (.lst xs) F = F := propext ⟨fun ⟨_, _, h⟩ => h, fun h => ⟨xs, rfl, h⟩⟩
section
variable {ρ : En} {T : Tk} {k : KD} {o : Op2} {fe fo : dE} {fr : dA} {i n : Nat} {K : dEnds} {se : SemX} {r : RX} {x fl : Str} {a : Addr} {d : Option Addr} {ob : Option Bool}
theorem h_isE : dIsE i a d ob ρ T k = exK ob ρ[i]? a d T k := propext Iff.rfl
theorem h_givE : dGivE fl i a d true ρ T k = gvK fl ρ[i]? a d T k := propext ⟨fun h => h.2, fun h => ⟨rfl, h⟩⟩
theorem h_mt : dMt o fo fe ρ T k = fo ρ T fun x T1 => mtK x (fe ρ T1 fun y T2 => o x y fun d => k d T2) := propext Iff.rfl
theorem h_callX : dCallX n se r fr ρ T k = fr ρ T fun as T1 => callN n (se (fun e T => r e ρ T)) as T1 k := propext Iff.rfl
def raiK (r : RX) (x : Str) (g : Option (Str × D)) (ρ : En) (T : Tk) : Prop := r ⟨x, g⟩ ρ T
theorem raiK_go {r : RX} {x : Str} {g : Option (Str × D)} : raiK r x g ρ T = r ⟨x, g⟩ ρ T := propext Iff.rfl
theorem h_raise1 : sRaise1 x fl fe r K ρ T = fe ρ T fun d T1 => raiK r x (some (fl, d)) ρ T1 := propext Iff.rfl
theorem h_raise0 : sRaise0 x r K ρ T = raiK r x none ρ T := propext Iff.rfl
end
end L2.G
/-! the head's facts on classes -/
namespace L2.G
open PySem PySem.Spec PyProof.Rows
theorem exB_of {K : PySem.W.Frag} {C : Addr} (q : exB K C = true) : ExcC K C := by
  unfold exB at q
  simp only [Bool.and_eq_true, beq_iff_eq] at q
  obtain ⟨q1, q2, q3, q4, q5, q6, q7, q8⟩ := q
  exact ⟨q1, q2, q3, q4, q5, q6, q7, q8⟩
section
variable {z : Hd} {K : PySem.W.Frag} {h : Heap} {mg : Str → Option Value}
theorem Hd.Says.io (X : K.In h) (G : h.Ns mainGlobals mg) (c : z.Says K) {cn : Str} {is : Str → Option Bool} (hcn : cn ∈ z.exs) (hm : ∀ nm b, is nm = some b → nm ∈ z.exs ∧ (nm, cn, b) ∈ z.kis) :
    ∃ C, mg cn = some (.ref C) ∧ ∀ nm cls, mg nm = some cls → ∀ b, is nm = some b → ∃ D, cls = .ref D ∧ ExcC K D ∧ PySem.W.kitOne K (.ref D) (.ref C) = some b := by
  obtain ⟨C, hC, _⟩ := c.e _ hcn
  have z3 := PySem.W.mg_of X G hC
  refine ⟨C, z3, fun nm cls hn b hb => ?_⟩
  obtain ⟨h1, h2⟩ := hm nm b hb
  obtain ⟨D, hD, eD⟩ := c.e _ h1
  obtain ⟨u, C', k1, k2, k3⟩ := c.ki _ h2
  have z1 := PySem.W.mg_of X G hD
  have z2 := PySem.W.mg_of X G k1
  have z4 := PySem.W.mg_of X G k2
  simp only at z2 z4
  rw [hn] at z1 z2
  rw [z3] at z4
  cases z1
  cases z2
  cases z4
  exact ⟨D, rfl, exB_of eD, k3⟩
end
section
variable {X : Cx} {x cn : Str} {a : Addr} {oe : Obj} {cls : Value} {d : Option Addr} {pn : List (Addr × Obj)} {p p2 p3 pos : Pos} {ob : Option Bool}
end
section
variable {X : Cx} {a b : Expr} {fa fb : dE} {pos : Pos}
end
end L2.G

set_option maxHeartbeats 2000000
namespace L2.G
open PySem PySem.Spec PyProof.Rows
/-! repr of a list of a text and an empty dict -/
def ReprE (xs : List D) : Prop := ∃ w, xs = [.str w, .dct [] []] ∧ (PyData.list [.str w, .dict []]).showable = true ∧ (PyData.list [.str w, .dict []]).shown.length ≤ sizeLine
def fReprE : List D → PD
  | [.lst xs] => some (D.shOk (.lst xs) ∨ ReprE xs, .str (D.py (.lst xs)).shown)
  | ds => fRepr ds
theorem fReprE_lst {xs : List D} : fReprE [.lst xs] = some (D.shOk (.lst xs) ∨ ReprE xs, .str (D.py (.lst xs)).shown) := rfl
theorem fReprE_tup {xs : List D} : fReprE [.tup xs] = some (D.shOk (.tup xs), .str (D.py (.tup xs)).shown) := rfl
theorem fReprE_int {i : Int} : fReprE [.int i] = some (i.natAbs.log2 < 1920, .str (toString i)) := rfl
theorem fReprE_bl {b : Bool} : fReprE [.bl b] = some (True, .str (if b then "True" else "False")) := rfl
theorem fReprE_non : fReprE [.non] = some (True, .str "None") := rfl
section
variable {X : Cx} {e : Expr} {es : List Expr} {fr : dA} {p pos : Pos}
end
end L2.G
namespace L2.G
open PySem PySem.Spec PyProof.Rows
theorem cntC_some {P : Prop} {bs : List Bool} : cntR (fun bs => some (cntT bs)) P (some bs) = some (P, .int (cntT bs)) := rfl
def idxI (bs : List Bool) : Option Int := (idxT bs).map Int.ofNat
theorem idxI_t {r : List Bool} : idxI (true :: r) = some 0 := rfl
theorem idxI_f {r : List Bool} : idxI (false :: r) = (idxI r).map (· + 1) := by
  unfold idxI
  rw [idxT_f]
  cases idxT r <;> rfl
def ixR2 (P : Prop) (o : Option Int) : PD := match o with | some i => some (P, .int i) | none => none
theorem ixR2_some {P : Prop} {i : Int} : ixR2 P (some i) = some (P, .int i) := rfl
theorem idxC_some {P : Prop} {bs : List Bool} : cntR (fun bs => (idxT bs).map Int.ofNat) P (some bs) = ixR2 P (idxI bs) := by
  show (match (idxT bs).map Int.ofNat with | some i => some (P, D.int i) | none => none) = ixR2 P ((idxT bs).map Int.ofNat)
  cases (idxT bs).map Int.ofNat <;> rfl
end L2.G

set_option maxHeartbeats 2000000
namespace L2
open PySem PySem.Spec PyProof.Rows
section
variable {X : Cx} {e : Expr} {es : List Expr} {pos cpos apos : Pos} {t : TA} {te : TE}
end
end L2
namespace L2.G
open PySem PySem.Spec PyProof.Rows
def strs? : List D → Option (List Str)
  | [] => some []
  | .str z :: r => (strs? r).map (z :: ·)
  | _ :: _ => none
def idxS (z : Str) : List Str → Option Nat
  | [] => none
  | y :: r => if y = z then some 0 else (idxS z r).map (· + 1)
def idx? (ds : List D) (y : D) : Option Nat := match y with
  | .str z => (match strs? ds with
    | some ys => idxS z ys
    | none => none)
  | _ => none
/-- (..).index(y), a tuple of texts -/
def dTupIx (fr : dA) (fe : dE) : dE := fun ρ T k => fr ρ T fun as T1 => match vals? as with
  | some ds => ds.length ≤ 1000000 ∧ fe ρ T1 fun y T2 => ∃ j : Nat, idx? ds y = some j ∧ k (.int j) T2
  | none => False
section
variable {X : Cx} {e : Expr} {es : List Expr} {fe : dE} {fr : dA} {pos cpos apos : Pos} {c : Ct} {a b : Expr} {fa fb : dE}
end
def tixK (o : Option Nat) (k : D → Prop) (fz : Fz k := ⟨⟩) : Prop := ∃ j : Nat, o = some j ∧ k (.int j)
theorem tixK_go {j : Nat} {k : D → Prop} : tixK (some j) k = k (.int j) := propext ⟨fun ⟨_, e, h⟩ => by cases e; exact h, fun h => ⟨j, rfl, h⟩⟩
theorem h_tupIx {fr : dA} {fe : dE} {ρ : En} {T : Tk} {k : KD} : dTupIx fr fe ρ T k = fr ρ T fun as T1 => sqK (vals? as) fun ds => ds.length ≤ 1000000 ∧ fe ρ T1 fun y T2 => tixK (idx? ds y) fun d => k d T2 := propext Iff.rfl
end L2.G

set_option maxHeartbeats 4000000
namespace L2.G
open PySem PySem.Spec PyProof.Rows L2
section
variable {P : Program} {w : World} {A : Around} {E : Value → Shared → Prop} {s : Shared}
end
/-! sorted(set([..])), ints -/
section
variable {X : Cx}
def insI (x : Int) : List Int → List Int
  | [] => [x]
  | y :: r => if x < y then x :: y :: r else if x = y then y :: r else y :: insI x r
def sI : List Int → List Int
  | [] => []
  | x :: r => insI x (sI r)
def siR (o : Option (List Int)) : PD := match o with | some ns => some (ns.length < 64, .lst ((sI ns).map D.int)) | none => none
def fSortI : List D → PD | [.lst xs] => siR (nums? xs) | _ => none
theorem fSortI_lst {xs : List D} : fSortI [.lst xs] = siR (nums? xs) := rfl
theorem siR_some {ns : List Int} : siR (some ns) = some (ns.length < 64, .lst ((sI ns).map D.int)) := rfl
variable {e : Expr} {fr : dA} {p p2 pos pos2 : Pos}
end
end L2.G

namespace L2.G
open PySem PySem.Spec PyProof.Rows L2
/-! zip of three tuples -/
def zipD3 : List D → List D → List D → List D
  | x :: xs, y :: ys, z :: zs => .tup [x, y, z] :: zipD3 xs ys zs
  | _, _, _ => []
theorem zipD3_cons {x y z : D} {xs ys zs : List D} : zipD3 (x :: xs) (y :: ys) (z :: zs) = .tup [x, y, z] :: zipD3 xs ys zs := rfl
theorem zipD3_nil {ys zs : List D} : zipD3 [] ys zs = [] := by simp [zipD3]
def zip3 : List SV → Option (List D)
  | [.val (.tup xs), .val (.tup ys), .val (.tup zs)] => some (zipD3 xs ys zs)
  | _ => none
theorem zip3_tup {xs ys zs : List D} : zip3 [.val (.tup xs), .val (.tup ys), .val (.tup zs)] = some (zipD3 xs ys zs) := rfl
def iZ3 (fr : dA) : dI := fun ρ T k => fr ρ T fun as T1 => match zip3 as with | some l => l.length ≤ 1000000 ∧ k l T1 | none => False
def zp3K (o : Option (List D)) (T : Tk) (k : List D → Tk → Prop) (fz : Fz k := ⟨⟩) : Prop := match o with | some l => l.length ≤ 1000000 ∧ k l T | none => False
theorem zp3K_go {l : List D} {T : Tk} {k : List D → Tk → Prop} : zp3K (some l) T k = (l.length ≤ 1000000 ∧ k l T) := propext Iff.rfl
theorem h_iZ3 {fr : dA} {ρ : En} {T : Tk} {k : List D → Tk → Prop} : iZ3 fr ρ T k = fr ρ T fun as T1 => zp3K (zip3 as) T1 k := propext Iff.rfl
end L2.G

namespace L2.G
open PySem PySem.Spec PyProof.Rows
def topS (i : Nat) : Stmt := PySem.Challenge.pw_drawarms_k51_whole_agreement_of_maps.main.body.getD i (.Pass ⟨0, 0, 0, 0⟩)
def k_UNITS : D := (.tup [(.tup [(.int 1), (.int 0)]), (.tup [(.int 0), (.int 1)]), (.tup [(.int (-1)), (.int 0)]), (.tup [(.int 0), (.int (-1))])])
def k_ZERO : D := (.tup [(.int 0), (.int 0)])
def k_FAR : D := (.tup [(.int 1), (.int 0), (.int 0)])
def k_STAYS : D := (.tup [(.int 0), (.tup [(.int 1), (.int 0)]), (.tup [(.int 0), (.int 0)]), (.tup [(.int 0), (.int 0)]), (.tup [(.int 1), (.int 0)])])
abbrev st_is_whole : Stmt := topS 6
theorem sc_is_whole : FnScope ["value"] ["value"] (defScope st_is_whole) := ⟨rfl, rfl, rfl, by decide +kernel, rfl, by decide +kernel, by decide +kernel⟩
def b_is_whole : dS := sRet (dAndV (dIsi .int (dVar 0)) (dNotV (dIsi .bool (dVar 0))))
def sm_is_whole : Sem := semOf ["value"] b_is_whole
theorem e_is_whole (a0 : SV) (T : Tk) (k : KD) : sm_is_whole [a0] T k = b_is_whole { nx := fun _ T => k .non T, rt := k, bk := fun _ _ => False, ct := fun _ _ => False } [some a0] T := rfl
abbrev st_are_wholes : Stmt := topS 7
theorem sc_are_wholes : FnScope ["value", "many", "number"] ["value", "many"] (defScope st_are_wholes) := ⟨rfl, rfl, rfl, by decide +kernel, rfl, by decide +kernel, by decide +kernel⟩
def b_are_wholes : dS := sRet (dAndV (dIsi .tuple (dVar 0)) (dAndV (dOp (oF fEq) (dBlt (oG fLen) (aCons (dVar 0) (aNil))) (dVar 1)) (dBlt (oG fAll) (aCons (dLc [2] (iQ (dVar 0)) (cN 2) dYes (dCall 1 sm_is_whole (aCons (dVar 2) (aNil)))) (aNil)))))
def sm_are_wholes : Sem := semOf ["value", "many", "number"] b_are_wholes
theorem e_are_wholes (a0 a1 : SV) (T : Tk) (k : KD) : sm_are_wholes [a0, a1] T k = b_are_wholes { nx := fun _ T => k .non T, rt := k, bk := fun _ _ => False, ct := fun _ _ => False } [some a0, some a1, none] T := rfl
abbrev st_divisor_of : Stmt := topS 8
theorem sc_divisor_of : FnScope ["numbers", "found", "number"] ["numbers"] (defScope st_divisor_of) := ⟨rfl, rfl, rfl, by decide +kernel, rfl, by decide +kernel, by decide +kernel⟩
def b_divisor_of : dS := sSeq (sAsg (dC (.int 0)) (gN 1)) (sSeq (sForI (iQ (dVar 0)) (gN 2) (sAsg (dBlt (oG (fI2 iGcd)) (aCons (dVar 1) (aCons (dVar 2) (aNil)))) (gN 1))) (sRet (dVar 1)))
def sm_divisor_of : Sem := semOf ["numbers", "found", "number"] b_divisor_of
theorem e_divisor_of (a0 : SV) (T : Tk) (k : KD) : sm_divisor_of [a0] T k = b_divisor_of { nx := fun _ T => k .non T, rt := k, bk := fun _ _ => False, ct := fun _ _ => False } [some a0, none, none] T := rfl
abbrev st_lowest : Stmt := topS 9
theorem sc_lowest : FnScope ["numbers", "divisor", "number"] ["numbers"] (defScope st_lowest) := ⟨rfl, rfl, rfl, by decide +kernel, rfl, by decide +kernel, by decide +kernel⟩
def b_lowest : dS := sSeq (sAsg (dCall 1 sm_divisor_of (aCons (dVar 0) (aNil))) (gN 1)) (sRet (dBlt (oG fTuple) (aCons (dLc [2] (iQ (dVar 0)) (cN 2) dYes (dOp (oF fDiv) (dVar 2) (dVar 1))) (aNil))))
def sm_lowest : Sem := semOf ["numbers", "divisor", "number"] b_lowest
theorem e_lowest (a0 : SV) (T : Tk) (k : KD) : sm_lowest [a0] T k = b_lowest { nx := fun _ T => k .non T, rt := k, bk := fun _ _ => False, ct := fun _ _ => False } [some a0, none, none] T := rfl
abbrev st_is_lowest : Stmt := topS 10
theorem sc_is_lowest : FnScope ["numbers"] ["numbers"] (defScope st_is_lowest) := ⟨rfl, rfl, rfl, by decide +kernel, rfl, by decide +kernel, by decide +kernel⟩
def b_is_lowest : dS := sRet (dOp (oF fEq) (dCall 1 sm_divisor_of (aCons (dVar 0) (aNil))) (dC (.int 1)))
def sm_is_lowest : Sem := semOf ["numbers"] b_is_lowest
theorem e_is_lowest (a0 : SV) (T : Tk) (k : KD) : sm_is_lowest [a0] T k = b_is_lowest { nx := fun _ T => k .non T, rt := k, bk := fun _ _ => False, ct := fun _ _ => False } [some a0] T := rfl
abbrev st_is_led_up : Stmt := topS 11
theorem sc_is_led_up : FnScope ["numbers", "number"] ["numbers"] (defScope st_is_led_up) := ⟨rfl, rfl, rfl, by decide +kernel, rfl, by decide +kernel, by decide +kernel⟩
def b_is_led_up : dS := sSeq (sForI (iQ (dVar 0)) (gN 1) (sIf (dTst (dOp (oF fNe) (dVar 1) (dC (.int 0)))) (sRet (dOp (oF fGt) (dVar 1) (dC (.int 0)))) ((fun k ρ T => k.nx ρ T)))) (sRet (dC (.bl false)))
def sm_is_led_up : Sem := semOf ["numbers", "number"] b_is_led_up
theorem e_is_led_up (a0 : SV) (T : Tk) (k : KD) : sm_is_led_up [a0] T k = b_is_led_up { nx := fun _ T => k .non T, rt := k, bk := fun _ _ => False, ct := fun _ _ => False } [some a0, none] T := rfl
abbrev st_first_above : Stmt := topS 12
theorem sc_first_above : FnScope ["numbers", "found", "number"] ["numbers"] (defScope st_first_above) := ⟨rfl, rfl, rfl, by decide +kernel, rfl, by decide +kernel, by decide +kernel⟩
def b_first_above : dS := sSeq (sAsg (dCall 1 sm_lowest (aCons (dVar 0) (aNil))) (gN 1)) (sRet (dIf (dTst (dCall 1 sm_is_led_up (aCons (dVar 1) (aNil)))) (dVar 1) (dBlt (oG fTuple) (aCons (dLc [2] (iQ (dVar 1)) (cN 2) dYes (dNeg (dVar 2))) (aNil)))))
def sm_first_above : Sem := semOf ["numbers", "found", "number"] b_first_above
theorem e_first_above (a0 : SV) (T : Tk) (k : KD) : sm_first_above [a0] T k = b_first_above { nx := fun _ T => k .non T, rt := k, bk := fun _ _ => False, ct := fun _ _ => False } [some a0, none, none] T := rfl
abbrev st_is_complex : Stmt := topS 17
theorem sc_is_complex : FnScope ["value"] ["value"] (defScope st_is_complex) := ⟨rfl, rfl, rfl, by decide +kernel, rfl, by decide +kernel, by decide +kernel⟩
def b_is_complex : dS := sRet (dCall 2 sm_are_wholes (aCons (dVar 0) (aCons (dC (.int 2)) (aNil))))
def sm_is_complex : Sem := semOf ["value"] b_is_complex
theorem e_is_complex (a0 : SV) (T : Tk) (k : KD) : sm_is_complex [a0] T k = b_is_complex { nx := fun _ T => k .non T, rt := k, bk := fun _ _ => False, ct := fun _ _ => False } [some a0] T := rfl
abbrev st_plus : Stmt := topS 18
theorem sc_plus : FnScope ["number", "other"] ["number", "other"] (defScope st_plus) := ⟨rfl, rfl, rfl, by decide +kernel, rfl, by decide +kernel, by decide +kernel⟩
def b_plus : dS := sRet (dTup (aCons (dOp (oF fAdd) (dOp (oF fIx) (dVar 0) (dC (.int 0))) (dOp (oF fIx) (dVar 1) (dC (.int 0)))) (aCons (dOp (oF fAdd) (dOp (oF fIx) (dVar 0) (dC (.int 1))) (dOp (oF fIx) (dVar 1) (dC (.int 1)))) (aNil))))
def sm_plus : Sem := semOf ["number", "other"] b_plus
theorem e_plus (a0 a1 : SV) (T : Tk) (k : KD) : sm_plus [a0, a1] T k = b_plus { nx := fun _ T => k .non T, rt := k, bk := fun _ _ => False, ct := fun _ _ => False } [some a0, some a1] T := rfl
abbrev st_minus : Stmt := topS 19
theorem sc_minus : FnScope ["number", "other"] ["number", "other"] (defScope st_minus) := ⟨rfl, rfl, rfl, by decide +kernel, rfl, by decide +kernel, by decide +kernel⟩
def b_minus : dS := sRet (dTup (aCons (dOp (oF fSub) (dOp (oF fIx) (dVar 0) (dC (.int 0))) (dOp (oF fIx) (dVar 1) (dC (.int 0)))) (aCons (dOp (oF fSub) (dOp (oF fIx) (dVar 0) (dC (.int 1))) (dOp (oF fIx) (dVar 1) (dC (.int 1)))) (aNil))))
def sm_minus : Sem := semOf ["number", "other"] b_minus
theorem e_minus (a0 a1 : SV) (T : Tk) (k : KD) : sm_minus [a0, a1] T k = b_minus { nx := fun _ T => k .non T, rt := k, bk := fun _ _ => False, ct := fun _ _ => False } [some a0, some a1] T := rfl
abbrev st_times : Stmt := topS 20
theorem sc_times : FnScope ["number", "other"] ["number", "other"] (defScope st_times) := ⟨rfl, rfl, rfl, by decide +kernel, rfl, by decide +kernel, by decide +kernel⟩
def b_times : dS := sRet (dTup (aCons (dOp (oF fSub) (dOp (oF fMul) (dOp (oF fIx) (dVar 0) (dC (.int 0))) (dOp (oF fIx) (dVar 1) (dC (.int 0)))) (dOp (oF fMul) (dOp (oF fIx) (dVar 0) (dC (.int 1))) (dOp (oF fIx) (dVar 1) (dC (.int 1))))) (aCons (dOp (oF fAdd) (dOp (oF fMul) (dOp (oF fIx) (dVar 0) (dC (.int 0))) (dOp (oF fIx) (dVar 1) (dC (.int 1)))) (dOp (oF fMul) (dOp (oF fIx) (dVar 0) (dC (.int 1))) (dOp (oF fIx) (dVar 1) (dC (.int 0))))) (aNil))))
def sm_times : Sem := semOf ["number", "other"] b_times
theorem e_times (a0 a1 : SV) (T : Tk) (k : KD) : sm_times [a0, a1] T k = b_times { nx := fun _ T => k .non T, rt := k, bk := fun _ _ => False, ct := fun _ _ => False } [some a0, some a1] T := rfl
abbrev st_scaled : Stmt := topS 21
theorem sc_scaled : FnScope ["number", "factor"] ["number", "factor"] (defScope st_scaled) := ⟨rfl, rfl, rfl, by decide +kernel, rfl, by decide +kernel, by decide +kernel⟩
def b_scaled : dS := sRet (dTup (aCons (dOp (oF fMul) (dVar 1) (dOp (oF fIx) (dVar 0) (dC (.int 0)))) (aCons (dOp (oF fMul) (dVar 1) (dOp (oF fIx) (dVar 0) (dC (.int 1)))) (aNil))))
def sm_scaled : Sem := semOf ["number", "factor"] b_scaled
theorem e_scaled (a0 a1 : SV) (T : Tk) (k : KD) : sm_scaled [a0, a1] T k = b_scaled { nx := fun _ T => k .non T, rt := k, bk := fun _ _ => False, ct := fun _ _ => False } [some a0, some a1] T := rfl
abbrev st_turned_over : Stmt := topS 22
theorem sc_turned_over : FnScope ["number"] ["number"] (defScope st_turned_over) := ⟨rfl, rfl, rfl, by decide +kernel, rfl, by decide +kernel, by decide +kernel⟩
def b_turned_over : dS := sRet (dTup (aCons (dOp (oF fIx) (dVar 0) (dC (.int 0))) (aCons (dNeg (dOp (oF fIx) (dVar 0) (dC (.int 1)))) (aNil))))
def sm_turned_over : Sem := semOf ["number"] b_turned_over
theorem e_turned_over (a0 : SV) (T : Tk) (k : KD) : sm_turned_over [a0] T k = b_turned_over { nx := fun _ T => k .non T, rt := k, bk := fun _ _ => False, ct := fun _ _ => False } [some a0] T := rfl
abbrev st_square_size : Stmt := topS 23
theorem sc_square_size : FnScope ["number"] ["number"] (defScope st_square_size) := ⟨rfl, rfl, rfl, by decide +kernel, rfl, by decide +kernel, by decide +kernel⟩
def b_square_size : dS := sRet (dOp (oF fAdd) (dOp (oF fMul) (dOp (oF fIx) (dVar 0) (dC (.int 0))) (dOp (oF fIx) (dVar 0) (dC (.int 0)))) (dOp (oF fMul) (dOp (oF fIx) (dVar 0) (dC (.int 1))) (dOp (oF fIx) (dVar 0) (dC (.int 1)))))
def sm_square_size : Sem := semOf ["number"] b_square_size
theorem e_square_size (a0 : SV) (T : Tk) (k : KD) : sm_square_size [a0] T k = b_square_size { nx := fun _ T => k .non T, rt := k, bk := fun _ _ => False, ct := fun _ _ => False } [some a0] T := rfl
abbrev st_unit_for : Stmt := topS 24
theorem sc_unit_for : FnScope ["number", "unit", "found"] ["number"] (defScope st_unit_for) := ⟨rfl, rfl, rfl, by decide +kernel, rfl, by decide +kernel, by decide +kernel⟩
def b_unit_for : dS := sSeq (sForI (iQ (dSlQ (dC k_UNITS) (fun _ T k => k none T) (pSome (dC (.int 3))))) (gN 1) (sSeq (sAsg (dCall 2 sm_times (aCons (dVar 0) (aCons (dVar 1) (aNil)))) (gN 2)) (sIf (dAnd (dTst (dOp (oF fGt) (dOp (oF fIx) (dVar 2) (dC (.int 0))) (dC (.int 0)))) (dTst (dOp (oF fGe) (dOp (oF fIx) (dVar 2) (dC (.int 1))) (dC (.int 0))))) (sRet (dVar 1)) ((fun k ρ T => k.nx ρ T))))) (sRet (dOp (oF fIx) (dC k_UNITS) (dC (.int 3))))
def sm_unit_for : Sem := semOf ["number", "unit", "found"] b_unit_for
theorem e_unit_for (a0 : SV) (T : Tk) (k : KD) : sm_unit_for [a0] T k = b_unit_for { nx := fun _ T => k .non T, rt := k, bk := fun _ _ => False, ct := fun _ _ => False } [some a0, none, none] T := rfl
abbrev st_nearest : Stmt := topS 25
theorem sc_nearest : FnScope ["number", "below"] ["number", "below"] (defScope st_nearest) := ⟨rfl, rfl, rfl, by decide +kernel, rfl, by decide +kernel, by decide +kernel⟩
def b_nearest : dS := sRet (dOp (oF fDiv) (dOp (oF fAdd) (dOp (oF fMul) (dC (.int 2)) (dVar 0)) (dVar 1)) (dOp (oF fMul) (dC (.int 2)) (dVar 1)))
def sm_nearest : Sem := semOf ["number", "below"] b_nearest
theorem e_nearest (a0 a1 : SV) (T : Tk) (k : KD) : sm_nearest [a0, a1] T k = b_nearest { nx := fun _ T => k .non T, rt := k, bk := fun _ _ => False, ct := fun _ _ => False } [some a0, some a1] T := rfl
abbrev st_divisor_of_two : Stmt := topS 26
theorem sc_divisor_of_two : FnScope ["number", "other", "one", "two", "product", "whole"] ["number", "other"] (defScope st_divisor_of_two) := ⟨rfl, rfl, rfl, by decide +kernel, rfl, by decide +kernel, by decide +kernel⟩
def b_divisor_of_two : dS := sSeq (sPar 2 3 (aCons (dVar 0) (aCons (dVar 1) (aNil)))) (sSeq (sWhile (dTst (dOp (oF fNe) (dVar 3) (dC k_ZERO))) (sSeq (sAsg (dCall 2 sm_times (aCons (dVar 2) (aCons (dCall 1 sm_turned_over (aCons (dVar 3) (aNil))) (aNil)))) (gN 4)) (sSeq (sAsg (dTup (aCons (dCall 2 sm_nearest (aCons (dOp (oF fIx) (dVar 4) (dC (.int 0))) (aCons (dCall 1 sm_square_size (aCons (dVar 3) (aNil))) (aNil)))) (aCons (dCall 2 sm_nearest (aCons (dOp (oF fIx) (dVar 4) (dC (.int 1))) (aCons (dCall 1 sm_square_size (aCons (dVar 3) (aNil))) (aNil)))) (aNil)))) (gN 5)) (sPar 2 3 (aCons (dVar 3) (aCons (dCall 2 sm_minus (aCons (dVar 2) (aCons (dCall 2 sm_times (aCons (dVar 5) (aCons (dVar 3) (aNil)))) (aNil)))) (aNil))))))) (sRet (dVar 2)))
def sm_divisor_of_two : Sem := semOf ["number", "other", "one", "two", "product", "whole"] b_divisor_of_two
theorem e_divisor_of_two (a0 a1 : SV) (T : Tk) (k : KD) : sm_divisor_of_two [a0, a1] T k = b_divisor_of_two { nx := fun _ T => k .non T, rt := k, bk := fun _ _ => False, ct := fun _ _ => False } [some a0, some a1, none, none, none, none] T := rfl
abbrev st_divisor_of_all : Stmt := topS 27
theorem sc_divisor_of_all : FnScope ["numbers", "found", "number"] ["numbers"] (defScope st_divisor_of_all) := ⟨rfl, rfl, rfl, by decide +kernel, rfl, by decide +kernel, by decide +kernel⟩
def b_divisor_of_all : dS := sSeq (sAsg (dC k_ZERO) (gN 1)) (sSeq (sForI (iQ (dVar 0)) (gN 2) (sAsg (dCall 2 sm_divisor_of_two (aCons (dVar 1) (aCons (dVar 2) (aNil)))) (gN 1))) (sRet (dVar 1)))
def sm_divisor_of_all : Sem := semOf ["numbers", "found", "number"] b_divisor_of_all
theorem e_divisor_of_all (a0 : SV) (T : Tk) (k : KD) : sm_divisor_of_all [a0] T k = b_divisor_of_all { nx := fun _ T => k .non T, rt := k, bk := fun _ _ => False, ct := fun _ _ => False } [some a0, none, none] T := rfl
abbrev st_divided : Stmt := topS 28
theorem sc_divided : FnScope ["number", "other", "product", "below"] ["number", "other"] (defScope st_divided) := ⟨rfl, rfl, rfl, by decide +kernel, rfl, by decide +kernel, by decide +kernel⟩
def b_divided : dS := sSeq (sPar 2 3 (aCons (dCall 2 sm_times (aCons (dVar 0) (aCons (dCall 1 sm_turned_over (aCons (dVar 1) (aNil))) (aNil)))) (aCons (dCall 1 sm_square_size (aCons (dVar 1) (aNil))) (aNil)))) (sSeq (sIf (dOr (dTst (dOp (oF fNe) (dOp (oF fMod) (dOp (oF fIx) (dVar 2) (dC (.int 0))) (dVar 3)) (dC (.int 0)))) (dTst (dOp (oF fNe) (dOp (oF fMod) (dOp (oF fIx) (dVar 2) (dC (.int 1))) (dVar 3)) (dC (.int 0))))) (sRet (dC .non)) ((fun k ρ T => k.nx ρ T))) (sRet (dTup (aCons (dOp (oF fDiv) (dOp (oF fIx) (dVar 2) (dC (.int 0))) (dVar 3)) (aCons (dOp (oF fDiv) (dOp (oF fIx) (dVar 2) (dC (.int 1))) (dVar 3)) (aNil))))))
def sm_divided : Sem := semOf ["number", "other", "product", "below"] b_divided
theorem e_divided (a0 a1 : SV) (T : Tk) (k : KD) : sm_divided [a0, a1] T k = b_divided { nx := fun _ T => k .non T, rt := k, bk := fun _ _ => False, ct := fun _ _ => False } [some a0, some a1, none, none] T := rfl
abbrev st_root : Stmt := topS 29
theorem sc_root : FnScope ["number", "length", "first", "second", "found"] ["number"] (defScope st_root) := ⟨rfl, rfl, rfl, by decide +kernel, rfl, by decide +kernel, by decide +kernel⟩
def b_root : dS := sSeq (sAsg (dBlt (oG fSqrt) (aCons (dCall 1 sm_square_size (aCons (dVar 0) (aNil))) (aNil))) (gN 1)) (sSeq (sAsg (dBlt (oG fSqrt) (aCons (dBlt (oG (fI2 iMax)) (aCons (dC (.int 0)) (aCons (dOp (oF fDiv) (dOp (oF fAdd) (dVar 1) (dOp (oF fIx) (dVar 0) (dC (.int 0)))) (dC (.int 2))) (aNil)))) (aNil))) (gN 2)) (sSeq (sAsg (dBlt (oG fSqrt) (aCons (dBlt (oG (fI2 iMax)) (aCons (dC (.int 0)) (aCons (dOp (oF fDiv) (dOp (oF fSub) (dVar 1) (dOp (oF fIx) (dVar 0) (dC (.int 0)))) (dC (.int 2))) (aNil)))) (aNil))) (gN 3)) (sSeq (sAsg (dTup (aCons (dVar 2) (aCons (dIf (dTst (dOp (oF fGe) (dOp (oF fIx) (dVar 0) (dC (.int 1))) (dC (.int 0)))) (dVar 3) (dNeg (dVar 3))) (aNil)))) (gN 4)) (sRet (dIf (dTst (dOp (oF fEq) (dCall 2 sm_times (aCons (dVar 4) (aCons (dVar 4) (aNil)))) (dVar 0))) (dVar 4) (dC .non))))))
def sm_root : Sem := semOf ["number", "length", "first", "second", "found"] b_root
theorem e_root (a0 : SV) (T : Tk) (k : KD) : sm_root [a0] T k = b_root { nx := fun _ T => k .non T, rt := k, bk := fun _ _ => False, ct := fun _ _ => False } [some a0, none, none, none, none] T := rfl
abbrev st_quotient_place : Stmt := topS 32
theorem sc_quotient_place : FnScope ["number", "other", "product"] ["number", "other"] (defScope st_quotient_place) := ⟨rfl, rfl, rfl, by decide +kernel, rfl, by decide +kernel, by decide +kernel⟩
def b_quotient_place : dS := sSeq (sIf (dTst (dOp (oF fEq) (dVar 1) (dC k_ZERO))) (sRet (dC k_FAR)) ((fun k ρ T => k.nx ρ T))) (sSeq (sAsg (dCall 2 sm_times (aCons (dVar 0) (aCons (dCall 1 sm_turned_over (aCons (dVar 1) (aNil))) (aNil)))) (gN 2)) (sRet (dCall 1 sm_lowest (aCons (dTup (aCons (dOp (oF fIx) (dVar 2) (dC (.int 0))) (aCons (dOp (oF fIx) (dVar 2) (dC (.int 1))) (aCons (dCall 1 sm_square_size (aCons (dVar 1) (aNil))) (aNil))))) (aNil)))))
def sm_quotient_place : Sem := semOf ["number", "other", "product"] b_quotient_place
theorem e_quotient_place (a0 a1 : SV) (T : Tk) (k : KD) : sm_quotient_place [a0, a1] T k = b_quotient_place { nx := fun _ T => k .non T, rt := k, bk := fun _ _ => False, ct := fun _ _ => False } [some a0, some a1, none] T := rfl
abbrev st_bend : Stmt := topS 34
theorem sc_bend : FnScope ["row"] ["row"] (defScope st_bend) := ⟨rfl, rfl, rfl, by decide +kernel, rfl, by decide +kernel, by decide +kernel⟩
def b_bend : dS := sRet (dOp (oF fSub) (dOp (oF fAdd) (dOp (oF fMul) (dOp (oF fIx) (dVar 0) (dC (.int 1))) (dOp (oF fIx) (dVar 0) (dC (.int 1)))) (dOp (oF fMul) (dOp (oF fIx) (dVar 0) (dC (.int 2))) (dOp (oF fIx) (dVar 0) (dC (.int 2))))) (dOp (oF fMul) (dOp (oF fMul) (dC (.int 4)) (dOp (oF fIx) (dVar 0) (dC (.int 0)))) (dOp (oF fIx) (dVar 0) (dC (.int 3)))))
def sm_bend : Sem := semOf ["row"] b_bend
theorem e_bend (a0 : SV) (T : Tk) (k : KD) : sm_bend [a0] T k = b_bend { nx := fun _ T => k .non T, rt := k, bk := fun _ _ => False, ct := fun _ _ => False } [some a0] T := rfl
abbrev st_is_row : Stmt := topS 35
theorem sc_is_row : FnScope ["value"] ["value"] (defScope st_is_row) := ⟨rfl, rfl, rfl, by decide +kernel, rfl, by decide +kernel, by decide +kernel⟩
def b_is_row : dS := sRet (dAndV (dCall 2 sm_are_wholes (aCons (dVar 0) (aCons (dC (.int 4)) (aNil)))) (dAndV (dCall 1 sm_is_lowest (aCons (dVar 0) (aNil))) (dOp (oF fGt) (dCall 1 sm_bend (aCons (dVar 0) (aNil))) (dC (.int 0)))))
def sm_is_row : Sem := semOf ["value"] b_is_row
theorem e_is_row (a0 : SV) (T : Tk) (k : KD) : sm_is_row [a0] T k = b_is_row { nx := fun _ T => k .non T, rt := k, bk := fun _ _ => False, ct := fun _ _ => False } [some a0] T := rfl
abbrev st_is_round : Stmt := topS 36
theorem sc_is_round : FnScope ["value"] ["value"] (defScope st_is_round) := ⟨rfl, rfl, rfl, by decide +kernel, rfl, by decide +kernel, by decide +kernel⟩
def b_is_round : dS := sRet (dAndV (dCall 1 sm_is_row (aCons (dVar 0) (aNil))) (dCall 1 sm_is_led_up (aCons (dVar 0) (aNil))))
def sm_is_round : Sem := semOf ["value"] b_is_round
theorem e_is_round (a0 : SV) (T : Tk) (k : KD) : sm_is_round [a0] T k = b_is_round { nx := fun _ T => k .non T, rt := k, bk := fun _ _ => False, ct := fun _ _ => False } [some a0] T := rfl
abbrev st_check_round : Stmt := topS 37
theorem sc_check_round : FnScope ["value"] ["value"] (defScope st_check_round) := ⟨rfl, rfl, rfl, by decide +kernel, rfl, by decide +kernel, by decide +kernel⟩
def b_check_round : dS := sIf (dNot (dTst (dCall 1 sm_is_round (aCons (dVar 0) (aNil))))) ((fun _ _ _ => False)) ((fun k ρ T => k.nx ρ T))
def sm_check_round : Sem := semOf ["value"] b_check_round
theorem e_check_round (a0 : SV) (T : Tk) (k : KD) : sm_check_round [a0] T k = b_check_round { nx := fun _ T => k .non T, rt := k, bk := fun _ _ => False, ct := fun _ _ => False } [some a0] T := rfl
abbrev st_determinant : Stmt := topS 40
theorem sc_determinant : FnScope ["chart"] ["chart"] (defScope st_determinant) := ⟨rfl, rfl, rfl, by decide +kernel, rfl, by decide +kernel, by decide +kernel⟩
def b_determinant : dS := sRet (dCall 2 sm_minus (aCons (dCall 2 sm_times (aCons (dOp (oF fIx) (dVar 0) (dC (.int 1))) (aCons (dOp (oF fIx) (dVar 0) (dC (.int 4))) (aNil)))) (aCons (dCall 2 sm_times (aCons (dOp (oF fIx) (dVar 0) (dC (.int 2))) (aCons (dOp (oF fIx) (dVar 0) (dC (.int 3))) (aNil)))) (aNil))))
def sm_determinant : Sem := semOf ["chart"] b_determinant
theorem e_determinant (a0 : SV) (T : Tk) (k : KD) : sm_determinant [a0] T k = b_determinant { nx := fun _ T => k .non T, rt := k, bk := fun _ _ => False, ct := fun _ _ => False } [some a0] T := rfl
abbrev st_form_of : Stmt := topS 41
theorem sc_form_of : FnScope ["is_mirrored", "numbers", "common", "found", "number", "unit"] ["is_mirrored", "numbers"] (defScope st_form_of) := ⟨rfl, rfl, rfl, by decide +kernel, rfl, by decide +kernel, by decide +kernel⟩
def b_form_of : dS := sSeq (sAsg (dCall 1 sm_divisor_of_all (aCons (dVar 1) (aNil))) (gN 2)) (sSeq (sAsg (dLc [4] (iQ (dVar 1)) (cN 4) dYes (dCall 2 sm_divided (aCons (dVar 4) (aCons (dVar 2) (aNil))))) (gN 3)) (sSeq (sAsg (dCall 1 sm_unit_for (aCons (dOp (oF fIx) (dLc [4] (iQ (dVar 3)) (cN 4) (dTst (dOp (oF fNe) (dVar 4) (dC k_ZERO))) (dVar 4)) (dC (.int 0))) (aNil))) (gN 5)) (sRet (dTup (aCons (dVar 0) (aStar (dLc [4] (iQ (dVar 3)) (cN 4) dYes (dCall 2 sm_times (aCons (dVar 4) (aCons (dVar 5) (aNil))))) (aNil)))))))
def sm_form_of : Sem := semOf ["is_mirrored", "numbers", "common", "found", "number", "unit"] b_form_of
theorem e_form_of (a0 a1 : SV) (T : Tk) (k : KD) : sm_form_of [a0, a1] T k = b_form_of { nx := fun _ T => k .non T, rt := k, bk := fun _ _ => False, ct := fun _ _ => False } [some a0, some a1, none, none, none, none] T := rfl
abbrev st_is_flag : Stmt := topS 42
theorem sc_is_flag : FnScope ["value"] ["value"] (defScope st_is_flag) := ⟨rfl, rfl, rfl, by decide +kernel, rfl, by decide +kernel, by decide +kernel⟩
def b_is_flag : dS := sRet (dAndV (dCall 1 sm_is_whole (aCons (dVar 0) (aNil))) (dOp (oF fInS) (dVar 0) (dTup (aCons (dC (.int 0)) (aCons (dC (.int 1)) (aNil))))))
def sm_is_flag : Sem := semOf ["value"] b_is_flag
theorem e_is_flag (a0 : SV) (T : Tk) (k : KD) : sm_is_flag [a0] T k = b_is_flag { nx := fun _ T => k .non T, rt := k, bk := fun _ _ => False, ct := fun _ _ => False } [some a0] T := rfl
abbrev st_is_map : Stmt := topS 43
theorem sc_is_map : FnScope ["value", "number"] ["value"] (defScope st_is_map) := ⟨rfl, rfl, rfl, by decide +kernel, rfl, by decide +kernel, by decide +kernel⟩
def b_is_map : dS := sSeq (sIf (dOr (dNot (dTst (dIsi .tuple (dVar 0)))) (dOr (dTst (dOp (oF fNe) (dBlt (oG fLen) (aCons (dVar 0) (aNil))) (dC (.int 5)))) (dNot (dTst (dCall 1 sm_is_flag (aCons (dOp (oF fIx) (dVar 0) (dC (.int 0))) (aNil))))))) (sRet (dC (.bl false))) ((fun k ρ T => k.nx ρ T))) (sSeq (sIf (dOr (dTst (dOp (oF fNe) (dLc [1] (iQ (dSlQ (dVar 0) (pSome (dC (.int 1))) (fun _ T k => k none T))) (cN 1) (dNot (dTst (dCall 1 sm_is_complex (aCons (dVar 1) (aNil))))) (dVar 1)) (dLst (aNil)))) (dTst (dOp (oF fEq) (dCall 1 sm_determinant (aCons (dVar 0) (aNil))) (dC k_ZERO)))) (sRet (dC (.bl false))) ((fun k ρ T => k.nx ρ T))) (sRet (dOp (oF fEq) (dCall 2 sm_form_of (aCons (dOp (oF fIx) (dVar 0) (dC (.int 0))) (aCons (dSlQ (dVar 0) (pSome (dC (.int 1))) (fun _ T k => k none T)) (aNil)))) (dVar 0))))
def sm_is_map : Sem := semOf ["value", "number"] b_is_map
theorem e_is_map (a0 : SV) (T : Tk) (k : KD) : sm_is_map [a0] T k = b_is_map { nx := fun _ T => k .non T, rt := k, bk := fun _ _ => False, ct := fun _ _ => False } [some a0, none] T := rfl
abbrev st_check_map : Stmt := topS 44
theorem sc_check_map : FnScope ["value"] ["value"] (defScope st_check_map) := ⟨rfl, rfl, rfl, by decide +kernel, rfl, by decide +kernel, by decide +kernel⟩
def b_check_map : dS := sIf (dNot (dTst (dCall 1 sm_is_map (aCons (dVar 0) (aNil))))) ((fun _ _ _ => False)) ((fun k ρ T => k.nx ρ T))
def sm_check_map : Sem := semOf ["value"] b_check_map
theorem e_check_map (a0 : SV) (T : Tk) (k : KD) : sm_check_map [a0] T k = b_check_map { nx := fun _ T => k .non T, rt := k, bk := fun _ _ => False, ct := fun _ _ => False } [some a0] T := rfl
abbrev st_led_by : Stmt := topS 45
theorem sc_led_by : FnScope ["chart", "place", "is_mirrored", "a", "b", "c", "d", "p", "s", "r", "number"] ["chart", "place"] (defScope st_led_by) := ⟨rfl, rfl, rfl, by decide +kernel, rfl, by decide +kernel, by decide +kernel⟩
def b_led_by : dS := sSeq (sAsg (dVar 0) (gTL 5 (gsCons (gN 2) (gsCons (gN 3) (gsCons (gN 4) (gsCons (gN 5) (gsCons (gN 6) (gsNil)))))))) (sSeq (sAsg (dVar 1) (gTL 3 (gsCons (gN 7) (gsCons (gN 8) (gsCons (gN 9) (gsNil)))))) (sSeq (sAsg (dIf (dTst (dOp (oF fEq) (dVar 2) (dC (.int 1)))) (dTup (aCons (dVar 7) (aCons (dNeg (dVar 8)) (aNil)))) (dTup (aCons (dVar 7) (aCons (dVar 8) (aNil))))) (gN 10)) (sRet (dCall 2 sm_quotient_place (aCons (dCall 2 sm_plus (aCons (dCall 2 sm_times (aCons (dVar 3) (aCons (dVar 10) (aNil)))) (aCons (dCall 2 sm_scaled (aCons (dVar 4) (aCons (dVar 9) (aNil)))) (aNil)))) (aCons (dCall 2 sm_plus (aCons (dCall 2 sm_times (aCons (dVar 5) (aCons (dVar 10) (aNil)))) (aCons (dCall 2 sm_scaled (aCons (dVar 6) (aCons (dVar 9) (aNil)))) (aNil)))) (aNil)))))))
def sm_led_by : Sem := semOf ["chart", "place", "is_mirrored", "a", "b", "c", "d", "p", "s", "r", "number"] b_led_by
theorem e_led_by (a0 a1 : SV) (T : Tk) (k : KD) : sm_led_by [a0, a1] T k = b_led_by { nx := fun _ T => k .non T, rt := k, bk := fun _ _ => False, ct := fun _ _ => False } [some a0, some a1, none, none, none, none, none, none, none, none, none] T := rfl
abbrev st_joined : Stmt := topS 46
theorem sc_joined : FnScope ["chart", "other", "numbers", "number", "a", "b", "c", "d", "found"] ["chart", "other"] (defScope st_joined) := ⟨rfl, rfl, rfl, by decide +kernel, rfl, by decide +kernel, by decide +kernel⟩
def b_joined : dS := sSeq (sAsg (dIf (dTst (dOp (oF fEq) (dOp (oF fIx) (dVar 0) (dC (.int 0))) (dC (.int 0)))) (dBlt (oG fList) (aCons (dSlQ (dVar 1) (pSome (dC (.int 1))) (fun _ T k => k none T)) (aNil))) (dLc [3] (iQ (dSlQ (dVar 1) (pSome (dC (.int 1))) (fun _ T k => k none T))) (cN 3) dYes (dCall 1 sm_turned_over (aCons (dVar 3) (aNil))))) (gN 2)) (sSeq (sAsg (dSlQ (dVar 0) (pSome (dC (.int 1))) (fun _ T k => k none T)) (gTL 4 (gsCons (gN 4) (gsCons (gN 5) (gsCons (gN 6) (gsCons (gN 7) (gsNil))))))) (sSeq (sAsg (dTup (aCons (dCall 2 sm_plus (aCons (dCall 2 sm_times (aCons (dVar 4) (aCons (dOp (oF fIx) (dVar 2) (dC (.int 0))) (aNil)))) (aCons (dCall 2 sm_times (aCons (dVar 5) (aCons (dOp (oF fIx) (dVar 2) (dC (.int 2))) (aNil)))) (aNil)))) (aCons (dCall 2 sm_plus (aCons (dCall 2 sm_times (aCons (dVar 4) (aCons (dOp (oF fIx) (dVar 2) (dC (.int 1))) (aNil)))) (aCons (dCall 2 sm_times (aCons (dVar 5) (aCons (dOp (oF fIx) (dVar 2) (dC (.int 3))) (aNil)))) (aNil)))) (aCons (dCall 2 sm_plus (aCons (dCall 2 sm_times (aCons (dVar 6) (aCons (dOp (oF fIx) (dVar 2) (dC (.int 0))) (aNil)))) (aCons (dCall 2 sm_times (aCons (dVar 7) (aCons (dOp (oF fIx) (dVar 2) (dC (.int 2))) (aNil)))) (aNil)))) (aCons (dCall 2 sm_plus (aCons (dCall 2 sm_times (aCons (dVar 6) (aCons (dOp (oF fIx) (dVar 2) (dC (.int 1))) (aNil)))) (aCons (dCall 2 sm_times (aCons (dVar 7) (aCons (dOp (oF fIx) (dVar 2) (dC (.int 3))) (aNil)))) (aNil)))) (aNil)))))) (gN 8)) (sRet (dCall 2 sm_form_of (aCons (dOp (oF fMod) (dOp (oF fAdd) (dOp (oF fIx) (dVar 0) (dC (.int 0))) (dOp (oF fIx) (dVar 1) (dC (.int 0)))) (dC (.int 2))) (aCons (dVar 8) (aNil)))))))
def sm_joined : Sem := semOf ["chart", "other", "numbers", "number", "a", "b", "c", "d", "found"] b_joined
theorem e_joined (a0 a1 : SV) (T : Tk) (k : KD) : sm_joined [a0, a1] T k = b_joined { nx := fun _ T => k .non T, rt := k, bk := fun _ _ => False, ct := fun _ _ => False } [some a0, some a1, none, none, none, none, none, none, none] T := rfl
abbrev st_way_back : Stmt := topS 47
theorem sc_way_back : FnScope ["chart", "is_mirrored", "a", "b", "c", "d", "numbers", "number"] ["chart"] (defScope st_way_back) := ⟨rfl, rfl, rfl, by decide +kernel, rfl, by decide +kernel, by decide +kernel⟩
def b_way_back : dS := sSeq (sAsg (dVar 0) (gTL 5 (gsCons (gN 1) (gsCons (gN 2) (gsCons (gN 3) (gsCons (gN 4) (gsCons (gN 5) (gsNil)))))))) (sSeq (sAsg (dLst (aCons (dVar 5) (aCons (dCall 2 sm_scaled (aCons (dVar 3) (aCons (dNeg (dC (.int 1))) (aNil)))) (aCons (dCall 2 sm_scaled (aCons (dVar 4) (aCons (dNeg (dC (.int 1))) (aNil)))) (aCons (dVar 2) (aNil)))))) (gN 6)) (sSeq (sIf (dTst (dOp (oF fEq) (dVar 1) (dC (.int 1)))) (sAsg (dLc [7] (iQ (dVar 6)) (cN 7) dYes (dCall 1 sm_turned_over (aCons (dVar 7) (aNil)))) (gN 6)) ((fun k ρ T => k.nx ρ T))) (sRet (dCall 2 sm_form_of (aCons (dVar 1) (aCons (dVar 6) (aNil)))))))
def sm_way_back : Sem := semOf ["chart", "is_mirrored", "a", "b", "c", "d", "numbers", "number"] b_way_back
theorem e_way_back (a0 : SV) (T : Tk) (k : KD) : sm_way_back [a0] T k = b_way_back { nx := fun _ T => k .non T, rt := k, bk := fun _ _ => False, ct := fun _ _ => False } [some a0, none, none, none, none, none, none, none] T := rfl
abbrev st_mirror_of : Stmt := topS 48
theorem sc_mirror_of : FnScope ["row", "q", "l", "m", "k"] ["row"] (defScope st_mirror_of) := ⟨rfl, rfl, rfl, by decide +kernel, rfl, by decide +kernel, by decide +kernel⟩
def b_mirror_of : dS := sSeq (sAsg (dVar 0) (gTL 4 (gsCons (gN 1) (gsCons (gN 2) (gsCons (gN 3) (gsCons (gN 4) (gsNil))))))) (sRet (dCall 2 sm_form_of (aCons (dC (.int 1)) (aCons (dLst (aCons (dTup (aCons (dNeg (dVar 2)) (aCons (dNeg (dVar 3)) (aNil)))) (aCons (dTup (aCons (dOp (oF fMul) (dNeg (dC (.int 2))) (dVar 4)) (aCons (dC (.int 0)) (aNil)))) (aCons (dTup (aCons (dOp (oF fMul) (dC (.int 2)) (dVar 1)) (aCons (dC (.int 0)) (aNil)))) (aCons (dTup (aCons (dVar 2) (aCons (dNeg (dVar 3)) (aNil)))) (aNil)))))) (aNil)))))
def sm_mirror_of : Sem := semOf ["row", "q", "l", "m", "k"] b_mirror_of
theorem e_mirror_of (a0 : SV) (T : Tk) (k : KD) : sm_mirror_of [a0] T k = b_mirror_of { nx := fun _ T => k .non T, rt := k, bk := fun _ _ => False, ct := fun _ _ => False } [some a0, none, none, none, none] T := rfl
abbrev st_trace : Stmt := topS 50
theorem sc_trace : FnScope ["chart"] ["chart"] (defScope st_trace) := ⟨rfl, rfl, rfl, by decide +kernel, rfl, by decide +kernel, by decide +kernel⟩
def b_trace : dS := sRet (dCall 2 sm_plus (aCons (dOp (oF fIx) (dVar 0) (dC (.int 1))) (aCons (dOp (oF fIx) (dVar 0) (dC (.int 4))) (aNil))))
def sm_trace : Sem := semOf ["chart"] b_trace
theorem e_trace (a0 : SV) (T : Tk) (k : KD) : sm_trace [a0] T k = b_trace { nx := fun _ T => k .non T, rt := k, bk := fun _ _ => False, ct := fun _ _ => False } [some a0] T := rfl
abbrev st_trace_place : Stmt := topS 51
theorem sc_trace_place : FnScope ["chart"] ["chart"] (defScope st_trace_place) := ⟨rfl, rfl, rfl, by decide +kernel, rfl, by decide +kernel, by decide +kernel⟩
def b_trace_place : dS := sRet (dCall 2 sm_quotient_place (aCons (dCall 2 sm_times (aCons (dCall 1 sm_trace (aCons (dVar 0) (aNil))) (aCons (dCall 1 sm_trace (aCons (dVar 0) (aNil))) (aNil)))) (aCons (dCall 1 sm_determinant (aCons (dVar 0) (aNil))) (aNil))))
def sm_trace_place : Sem := semOf ["chart"] b_trace_place
theorem e_trace_place (a0 : SV) (T : Tk) (k : KD) : sm_trace_place [a0] T k = b_trace_place { nx := fun _ T => k .non T, rt := k, bk := fun _ _ => False, ct := fun _ _ => False } [some a0] T := rfl
abbrev st_plain_kind : Stmt := topS 52
theorem sc_plain_kind : FnScope ["chart", "p", "s", "r"] ["chart"] (defScope st_plain_kind) := ⟨rfl, rfl, rfl, by decide +kernel, rfl, by decide +kernel, by decide +kernel⟩
def b_plain_kind : dS := sSeq (sIf (dTst (dOp (oF fEq) (dVar 0) (dC k_STAYS))) (sRet (dC (.str "stays"))) ((fun k ρ T => k.nx ρ T))) (sSeq (sAsg (dCall 1 sm_trace_place (aCons (dVar 0) (aNil))) (gTL 3 (gsCons (gN 1) (gsCons (gN 2) (gsCons (gN 3) (gsNil)))))) (sSeq (sIf (dTst (dOp (oF fNe) (dVar 2) (dC (.int 0)))) (sRet (dC (.str "spirals"))) ((fun k ρ T => k.nx ρ T))) (sSeq (sIf (dTst (dOp (oF fLt) (dVar 1) (dC (.int 0)))) (sRet (dC (.str "swings"))) ((fun k ρ T => k.nx ρ T))) (sSeq (sIf (dTst (dOp (oF fEq) (dVar 1) (dOp (oF fMul) (dC (.int 4)) (dVar 3)))) (sRet (dC (.str "settles"))) ((fun k ρ T => k.nx ρ T))) (sRet (dIf (dTst (dOp (oF fLt) (dVar 1) (dOp (oF fMul) (dC (.int 4)) (dVar 3)))) (dC (.str "winds")) (dC (.str "pulls"))))))))
def sm_plain_kind : Sem := semOf ["chart", "p", "s", "r"] b_plain_kind
theorem e_plain_kind (a0 : SV) (T : Tk) (k : KD) : sm_plain_kind [a0] T k = b_plain_kind { nx := fun _ T => k .non T, rt := k, bk := fun _ _ => False, ct := fun _ _ => False } [some a0, none, none, none] T := rfl
abbrev st_kind : Stmt := topS 53
theorem sc_kind : FnScope ["chart", "square", "a", "b", "c", "d"] ["chart"] (defScope st_kind) := ⟨rfl, rfl, rfl, by decide +kernel, rfl, by decide +kernel, by decide +kernel⟩
def b_kind : dS := sSeq (sIf (dTst (dOp (oF fEq) (dOp (oF fIx) (dVar 0) (dC (.int 0))) (dC (.int 0)))) (sRet (dCall 1 sm_plain_kind (aCons (dVar 0) (aNil)))) ((fun k ρ T => k.nx ρ T))) (sSeq (sAsg (dCall 2 sm_joined (aCons (dVar 0) (aCons (dVar 0) (aNil)))) (gN 1)) (sSeq (sIf (dTst (dOp (oF fNe) (dVar 1) (dC k_STAYS))) (sRet (dCall 1 sm_plain_kind (aCons (dVar 1) (aNil)))) ((fun k ρ T => k.nx ρ T))) (sSeq (sAsg (dSlQ (dVar 0) (pSome (dC (.int 1))) (fun _ T k => k none T)) (gTL 4 (gsCons (gN 2) (gsCons (gN 3) (gsCons (gN 4) (gsCons (gN 5) (gsNil))))))) (sRet (dIf (dTst (dOp (oF fGt) (dOp (oF fIx) (dCall 2 sm_plus (aCons (dCall 2 sm_times (aCons (dVar 2) (aCons (dTup (aCons (dOp (oF fIx) (dVar 2) (dC (.int 0))) (aCons (dNeg (dOp (oF fIx) (dVar 2) (dC (.int 1)))) (aNil)))) (aNil)))) (aCons (dCall 2 sm_times (aCons (dVar 3) (aCons (dTup (aCons (dOp (oF fIx) (dVar 4) (dC (.int 0))) (aCons (dNeg (dOp (oF fIx) (dVar 4) (dC (.int 1)))) (aNil)))) (aNil)))) (aNil)))) (dC (.int 0))) (dC (.int 0)))) (dC (.str "mirror")) (dC (.str "flips")))))))
def sm_kind : Sem := semOf ["chart", "square", "a", "b", "c", "d"] b_kind
theorem e_kind (a0 : SV) (T : Tk) (k : KD) : sm_kind [a0] T k = b_kind { nx := fun _ T => k .non T, rt := k, bk := fun _ _ => False, ct := fun _ _ => False } [some a0, none, none, none, none, none] T := rfl
abbrev st_kind_of : Stmt := topS 54
theorem sc_kind_of : FnScope ["chart"] ["chart"] (defScope st_kind_of) := ⟨rfl, rfl, rfl, by decide +kernel, rfl, by decide +kernel, by decide +kernel⟩
def b_kind_of : dS := sSeq (sExpr (dCall 1 sm_check_map (aCons (dVar 0) (aNil)))) (sRet (dCall 1 sm_kind (aCons (dVar 0) (aNil))))
def sm_kind_of : Sem := semOf ["chart"] b_kind_of
theorem e_kind_of (a0 : SV) (T : Tk) (k : KD) : sm_kind_of [a0] T k = b_kind_of { nx := fun _ T => k .non T, rt := k, bk := fun _ _ => False, ct := fun _ _ => False } [some a0] T := rfl
abbrev st_staying : Stmt := topS 55
theorem sc_staying : FnScope ["chart", "word"] ["chart"] (defScope st_staying) := ⟨rfl, rfl, rfl, by decide +kernel, rfl, by decide +kernel, by decide +kernel⟩
def b_staying : dS := sSeq (sAsg (dCall 1 sm_kind_of (aCons (dVar 0) (aNil))) (gN 1)) (sSeq (sIf (dTst (dOp (oF fEq) (dVar 1) (dC (.str "stays")))) (sRet (dC (.str "all"))) ((fun k ρ T => k.nx ρ T))) (sSeq (sIf (dTst (dOp (oF fEq) (dVar 1) (dC (.str "mirror")))) (sRet (dC (.str "round"))) ((fun k ρ T => k.nx ρ T))) (sSeq (sIf (dTst (dOp (oF fEq) (dVar 1) (dC (.str "settles")))) (sRet (dC (.int 1))) ((fun k ρ T => k.nx ρ T))) (sRet (dIf (dAnd (dTst (dOp (oF fEq) (dOp (oF fIx) (dVar 0) (dC (.int 0))) (dC (.int 1)))) (dTst (dOp (oF fNe) (dVar 1) (dC (.str "pulls"))))) (dC (.int 0)) (dC (.int 2)))))))
def sm_staying : Sem := semOf ["chart", "word"] b_staying
theorem e_staying (a0 : SV) (T : Tk) (k : KD) : sm_staying [a0] T k = b_staying { nx := fun _ T => k .non T, rt := k, bk := fun _ _ => False, ct := fun _ _ => False } [some a0, none] T := rfl
abbrev st_plain_kept : Stmt := topS 56
theorem sc_plain_kept : FnScope ["chart", "a", "b", "c", "d", "deep", "found", "number"] ["chart"] (defScope st_plain_kept) := ⟨rfl, rfl, rfl, by decide +kernel, rfl, by decide +kernel, by decide +kernel⟩
def b_plain_kept : dS := sSeq (sAsg (dSlQ (dVar 0) (pSome (dC (.int 1))) (fun _ T k => k none T)) (gTL 4 (gsCons (gN 1) (gsCons (gN 2) (gsCons (gN 3) (gsCons (gN 4) (gsNil))))))) (sSeq (sIf (dTst (dOp (oF fEq) (dVar 3) (dC k_ZERO))) (sRet (dIf (dTst (dOp (oF fEq) (dVar 1) (dVar 4))) (dTup (aCons (dC k_FAR) (aNil))) (dBlt (oG fTuple) (aCons (dBlt (oG fSortT) (aCons (dLst (aCons (dC k_FAR) (aCons (dCall 2 sm_quotient_place (aCons (dVar 2) (aCons (dCall 2 sm_minus (aCons (dVar 4) (aCons (dVar 1) (aNil)))) (aNil)))) (aNil)))) (aNil))) (aNil))))) ((fun k ρ T => k.nx ρ T))) (sSeq (sAsg (dCall 1 sm_root (aCons (dCall 2 sm_minus (aCons (dCall 2 sm_times (aCons (dCall 1 sm_trace (aCons (dVar 0) (aNil))) (aCons (dCall 1 sm_trace (aCons (dVar 0) (aNil))) (aNil)))) (aCons (dCall 2 sm_scaled (aCons (dCall 1 sm_determinant (aCons (dVar 0) (aNil))) (aCons (dC (.int 4)) (aNil)))) (aNil)))) (aNil))) (gN 5)) (sSeq (sIf (dTst (dIsN (dVar 5))) (sRet (dTup (aNil))) ((fun k ρ T => k.nx ρ T))) (sSeq (sAsg (dLc [7] (iQ (dTup (aCons (dCall 2 sm_plus (aCons (dCall 2 sm_minus (aCons (dVar 1) (aCons (dVar 4) (aNil)))) (aCons (dVar 5) (aNil)))) (aCons (dCall 2 sm_minus (aCons (dCall 2 sm_minus (aCons (dVar 1) (aCons (dVar 4) (aNil)))) (aCons (dVar 5) (aNil)))) (aNil))))) (cN 7) dYes (dCall 2 sm_quotient_place (aCons (dVar 7) (aCons (dCall 2 sm_scaled (aCons (dVar 3) (aCons (dC (.int 2)) (aNil)))) (aNil))))) (gN 6)) (sRet (dBlt (oG fTuple) (aCons (dBlt (oG fSortS) (aCons (dVar 6) (aNil))) (aNil))))))))
def sm_plain_kept : Sem := semOf ["chart", "a", "b", "c", "d", "deep", "found", "number"] b_plain_kept
theorem e_plain_kept (a0 : SV) (T : Tk) (k : KD) : sm_plain_kept [a0] T k = b_plain_kept { nx := fun _ T => k .non T, rt := k, bk := fun _ _ => False, ct := fun _ _ => False } [some a0, none, none, none, none, none, none, none] T := rfl
abbrev st_staying_places : Stmt := topS 57
theorem sc_staying_places : FnScope ["chart", "square", "place"] ["chart"] (defScope st_staying_places) := ⟨rfl, rfl, rfl, by decide +kernel, rfl, by decide +kernel, by decide +kernel⟩
def b_staying_places : dS := sSeq (sExpr (dCall 1 sm_check_map (aCons (dVar 0) (aNil)))) (sSeq (sIf (dTst (dOp (oF fInS) (dCall 1 sm_staying (aCons (dVar 0) (aNil))) (dTup (aCons (dC (.str "all")) (aCons (dC (.str "round")) (aNil)))))) (sRet (dC .non)) ((fun k ρ T => k.nx ρ T))) (sSeq (sIf (dTst (dOp (oF fEq) (dOp (oF fIx) (dVar 0) (dC (.int 0))) (dC (.int 0)))) (sRet (dCall 1 sm_plain_kept (aCons (dVar 0) (aNil)))) ((fun k ρ T => k.nx ρ T))) (sSeq (sAsg (dCall 2 sm_joined (aCons (dVar 0) (aCons (dVar 0) (aNil)))) (gN 1)) (sRet (dIf (dTst (dOp (oF fEq) (dVar 1) (dC k_STAYS))) (dTup (aNil)) (dBlt (oG fTuple) (aCons (dLc [2] (iQ (dCall 1 sm_plain_kept (aCons (dVar 1) (aNil)))) (cN 2) (dTst (dOp (oF fEq) (dCall 2 sm_led_by (aCons (dVar 0) (aCons (dVar 2) (aNil)))) (dVar 2))) (dVar 2)) (aNil))))))))
def sm_staying_places : Sem := semOf ["chart", "square", "place"] b_staying_places
theorem e_staying_places (a0 : SV) (T : Tk) (k : KD) : sm_staying_places [a0] T k = b_staying_places { nx := fun _ T => k .non T, rt := k, bk := fun _ _ => False, ct := fun _ _ => False } [some a0, none, none] T := rfl
abbrev st_step_between : Stmt := topS 59
theorem sc_step_between : FnScope ["chart", "other"] ["chart", "other"] (defScope st_step_between) := ⟨rfl, rfl, rfl, by decide +kernel, rfl, by decide +kernel, by decide +kernel⟩
def b_step_between : dS := sRet (dCall 2 sm_joined (aCons (dCall 1 sm_way_back (aCons (dVar 1) (aNil))) (aCons (dVar 0) (aNil))))
def sm_step_between : Sem := semOf ["chart", "other"] b_step_between
theorem e_step_between (a0 a1 : SV) (T : Tk) (k : KD) : sm_step_between [a0, a1] T k = b_step_between { nx := fun _ T => k .non T, rt := k, bk := fun _ _ => False, ct := fun _ _ => False } [some a0, some a1] T := rfl
abbrev st_rows_kept : Stmt := topS 60
theorem sc_rows_kept : FnScope ["chart", "a", "b", "c", "d"] ["chart"] (defScope st_rows_kept) := ⟨rfl, rfl, rfl, by decide +kernel, rfl, by decide +kernel, by decide +kernel⟩
def b_rows_kept : dS := sSeq (sAsg (dSlQ (dVar 0) (pSome (dC (.int 1))) (fun _ T k => k none T)) (gTL 4 (gsCons (gN 1) (gsCons (gN 2) (gsCons (gN 3) (gsCons (gN 4) (gsNil))))))) (sRet (dLst (aCons (dTup (aCons (dOp (oF fIx) (dVar 3) (dC (.int 0))) (aCons (dOp (oF fSub) (dOp (oF fIx) (dVar 4) (dC (.int 0))) (dOp (oF fIx) (dVar 1) (dC (.int 0)))) (aCons (dOp (oF fSub) (dNeg (dOp (oF fIx) (dVar 4) (dC (.int 1)))) (dOp (oF fIx) (dVar 1) (dC (.int 1)))) (aCons (dNeg (dOp (oF fIx) (dVar 2) (dC (.int 0)))) (aNil)))))) (aCons (dTup (aCons (dOp (oF fIx) (dVar 3) (dC (.int 1))) (aCons (dOp (oF fSub) (dOp (oF fIx) (dVar 4) (dC (.int 1))) (dOp (oF fIx) (dVar 1) (dC (.int 1)))) (aCons (dOp (oF fAdd) (dOp (oF fIx) (dVar 4) (dC (.int 0))) (dOp (oF fIx) (dVar 1) (dC (.int 0)))) (aCons (dNeg (dOp (oF fIx) (dVar 2) (dC (.int 1)))) (aNil)))))) (aNil)))))
def sm_rows_kept : Sem := semOf ["chart", "a", "b", "c", "d"] b_rows_kept
theorem e_rows_kept (a0 : SV) (T : Tk) (k : KD) : sm_rows_kept [a0] T k = b_rows_kept { nx := fun _ T => k .non T, rt := k, bk := fun _ _ => False, ct := fun _ _ => False } [some a0, none, none, none, none] T := rfl
abbrev st_row_of_mirror : Stmt := topS 61
theorem sc_row_of_mirror : FnScope ["chart", "row"] ["chart"] (defScope st_row_of_mirror) := ⟨rfl, rfl, rfl, by decide +kernel, rfl, by decide +kernel, by decide +kernel⟩
def b_row_of_mirror : dS := sRet (dCall 1 sm_first_above (aCons (dOp (oF fIx) (dLc [1] (iQ (dCall 1 sm_rows_kept (aCons (dVar 0) (aNil)))) (cN 1) (dTst (dOp (oF fNe) (dVar 1) (dTup (aCons (dC (.int 0)) (aCons (dC (.int 0)) (aCons (dC (.int 0)) (aCons (dC (.int 0)) (aNil)))))))) (dVar 1)) (dC (.int 0))) (aNil)))
def sm_row_of_mirror : Sem := semOf ["chart", "row"] b_row_of_mirror
theorem e_row_of_mirror (a0 : SV) (T : Tk) (k : KD) : sm_row_of_mirror [a0] T k = b_row_of_mirror { nx := fun _ T => k .non T, rt := k, bk := fun _ _ => False, ct := fun _ _ => False } [some a0, none] T := rfl
abbrev st_agreement : Stmt := topS 62
theorem sc_agreement : FnScope ["chart", "other", "step"] ["chart", "other"] (defScope st_agreement) := ⟨rfl, rfl, rfl, by decide +kernel, rfl, by decide +kernel, by decide +kernel⟩
def b_agreement : dS := sSeq (sExpr (dCall 1 sm_check_map (aCons (dVar 0) (aNil)))) (sSeq (sExpr (dCall 1 sm_check_map (aCons (dVar 1) (aNil)))) (sSeq (sAsg (dCall 2 sm_step_between (aCons (dVar 0) (aCons (dVar 1) (aNil)))) (gN 2)) (sSeq (sIf (dTst (dOp (oF fEq) (dVar 2) (dC k_STAYS))) (sRet (dTup (aCons (dC (.str "all")) (aNil)))) ((fun k ρ T => k.nx ρ T))) (sSeq (sIf (dTst (dOp (oF fEq) (dCall 1 sm_kind (aCons (dVar 2) (aNil))) (dC (.str "mirror")))) (sRet (dTup (aCons (dC (.str "round")) (aCons (dCall 1 sm_row_of_mirror (aCons (dVar 2) (aNil))) (aNil))))) ((fun k ρ T => k.nx ρ T))) (sRet (dTup (aCons (dC (.str "places")) (aCons (dCall 1 sm_staying (aCons (dVar 2) (aNil))) (aCons (dCall 1 sm_staying_places (aCons (dVar 2) (aNil))) (aNil))))))))))
def sm_agreement : Sem := semOf ["chart", "other", "step"] b_agreement
theorem e_agreement (a0 a1 : SV) (T : Tk) (k : KD) : sm_agreement [a0, a1] T k = b_agreement { nx := fun _ T => k .non T, rt := k, bk := fun _ _ => False, ct := fun _ _ => False } [some a0, some a1, none] T := rfl
abbrev st_agree_on : Stmt := topS 63
theorem sc_agree_on : FnScope ["chart", "other", "circle"] ["chart", "other", "circle"] (defScope st_agree_on) := ⟨rfl, rfl, rfl, by decide +kernel, rfl, by decide +kernel, by decide +kernel⟩
def b_agree_on : dS := sSeq (sExpr (dCall 1 sm_check_map (aCons (dVar 0) (aNil)))) (sSeq (sExpr (dCall 1 sm_check_map (aCons (dVar 1) (aNil)))) (sSeq (sExpr (dCall 1 sm_check_round (aCons (dVar 2) (aNil)))) (sRet (dOp (oF fInS) (dCall 2 sm_step_between (aCons (dVar 0) (aCons (dVar 1) (aNil)))) (dTup (aCons (dC k_STAYS) (aCons (dCall 1 sm_mirror_of (aCons (dVar 2) (aNil))) (aNil))))))))
def sm_agree_on : Sem := semOf ["chart", "other", "circle"] b_agree_on
theorem e_agree_on (a0 a1 a2 : SV) (T : Tk) (k : KD) : sm_agree_on [a0, a1, a2] T k = b_agree_on { nx := fun _ T => k .non T, rt := k, bk := fun _ _ => False, ct := fun _ _ => False } [some a0, some a1, some a2] T := rfl
abbrev st_mirror_round : Stmt := topS 64
theorem sc_mirror_round : FnScope ["chart"] ["chart"] (defScope st_mirror_round) := ⟨rfl, rfl, rfl, by decide +kernel, rfl, by decide +kernel, by decide +kernel⟩
def b_mirror_round : dS := sSeq (sExpr (dCall 1 sm_check_map (aCons (dVar 0) (aNil)))) (sRet (dIf (dTst (dOp (oF fEq) (dCall 1 sm_kind (aCons (dVar 0) (aNil))) (dC (.str "mirror")))) (dCall 1 sm_row_of_mirror (aCons (dVar 0) (aNil))) (dC .non)))
def sm_mirror_round : Sem := semOf ["chart"] b_mirror_round
theorem e_mirror_round (a0 : SV) (T : Tk) (k : KD) : sm_mirror_round [a0] T k = b_mirror_round { nx := fun _ T => k .non T, rt := k, bk := fun _ _ => False, ct := fun _ _ => False } [some a0] T := rfl
abbrev st__law_well : Stmt := topS 66
theorem sc__law_well : FnScope ["_law_script", "_law_spot_here", "_law_mixed", "_law_cell", "_law_own", "_law_rest"] ["_law_script", "_law_spot_here"] (defScope st__law_well) := ⟨rfl, rfl, rfl, by decide +kernel, rfl, by decide +kernel, by decide +kernel⟩
def b__law_well : En → Tk → KD → Prop := fun ρ T k => (sAsg (dOp (oF fAdd) (dC (.int 66245)) (dOp (oF fMul) (dC (.int 2203)) (dVar 1))) (gN 2)) { no0 with nx := fun ρ1 T1 => (fun ρ T k => (sForI (iQ (dSlQ (dVar 0) (fun _ T k => k none T) (pSome (dC (.int 9))))) (gN 3) (sAsg (dOp (oF fMod) (dBlt (oG fInt) (aCons (dOp (oF fAdd) (dOp (oF fAdd) (dOp (oF fMul) (dVar 2) (dC (.int 47917))) (dOp (oF fMod) (dBlt (oG fInt) (aCons (dVar 3) (aNil))) (dC (.int 2147483549)))) (dC (.int 31))) (aNil))) (dC (.int 2147483549))) (gN 2))) { no0 with nx := fun ρ1 T1 => (fun ρ T k => (sAsg (dIf (dTst (dOp (oF fLt) (dVar 1) (dBlt (oG fLen) (aCons (dVar 0) (aNil))))) (dBlt (oG fInt) (aCons (dOp (oF fIx) (dVar 0) (dVar 1)) (aNil))) (dC (.int 0))) (gN 4)) { no0 with nx := fun ρ1 T1 => (fun ρ T k => (sAsg (dIf (dOr (dTst (dOp (oF fLt) (dVar 4) (dC (.int 0)))) (dTst (dOp (oF fGe) (dVar 4) (dOp (oF fPow) (dC (.int 10)) (dC (.int 18)))))) (dBlt (oG (fI1 iAbs)) (aCons (dVar 4) (aNil))) (dC (.int 0))) (gN 5)) { no0 with nx := fun ρ1 T1 => (fun ρ T k => (aCons (dVar 5) (aCons (dOp (oF fMod) (dBlt (oG fInt) (aCons (dOp (oF fAdd) (dOp (oF fAdd) (dOp (oF fMul) (dVar 2) (dC (.int 30029))) (dOp (oF fMul) (dOp (oF fMod) (dBlt (oG fInt) (aCons (dVar 4) (aNil))) (dC (.int 2147483549))) (dC (.int 6211)))) (dC (.int 13))) (aNil))) (dC (.int 2147483549))) (aCons (dC (.int 0)) (aNil)))) ρ T fun as T1 => match vals? as with | some ds => ds.length ≤ 1000000 ∧ k (.lst ds) T1 | none => False) ρ1 T1 k } ρ T) ρ1 T1 k } ρ T) ρ1 T1 k } ρ T) ρ1 T1 k } ρ T
def sm__law_well : Sem := semO ["_law_script", "_law_spot_here", "_law_mixed", "_law_cell", "_law_own", "_law_rest"] b__law_well
theorem e__law_well (a0 a1 : SV) (T : Tk) (k : KD) : sm__law_well [a0, a1] T k = b__law_well [some a0, some a1, none, none, none, none] T k := rfl
abbrev st__law_dip : Stmt := topS 67
theorem sc__law_dip : FnScope ["_law_well_here", "_law_many", "_law_digit", "_law_step"] ["_law_well_here", "_law_many"] (defScope st__law_dip) := ⟨rfl, rfl, rfl, by decide +kernel, rfl, by decide +kernel, by decide +kernel⟩
def b__law_dip : dS := sSeq (sIf (dTst (dOp (oF fGt) (dTix 0 (dC (.int 0))) (dC (.int 0)))) (sSeq (sAsg (dBlt (oG fDivmod) (aCons (dTix 0 (dC (.int 0))) (aCons (dVar 1) (aNil)))) (gTL 2 (gsCons (gTs 0 (dC (.int 0))) (gsCons (gN 2) (gsNil))))) (sRet (dVar 2))) ((fun k ρ T => k.nx ρ T))) (sSeq (sAsg (dOp (oF fAdd) (dTix 0 (dC (.int 2))) (dC (.int 1))) (gTs 0 (dC (.int 2)))) (sSeq (sAsg (dOp (oF fAdd) (dOp (oF fMod) (dBlt (oG fInt) (aCons (dTix 0 (dC (.int 1))) (aNil))) (dC (.int 10037))) (dC (.int 20023))) (gN 3)) (sSeq (sAsg (dOp (oF fMod) (dBlt (oG fInt) (aCons (dOp (oF fAdd) (dOp (oF fAdd) (dOp (oF fMul) (dTix 0 (dC (.int 1))) (dVar 3)) (dOp (oF fMul) (dC (.int 90011)) (dTix 0 (dC (.int 2))))) (dC (.int 17))) (aNil))) (dC (.int 2147483549))) (gTs 0 (dC (.int 1)))) (sRet (dOp (oF fMod) (dBlt (oG fInt) (aCons (dOp (oF fDiv) (dTix 0 (dC (.int 1))) (dC (.int 67))) (aNil))) (dVar 1))))))
def sm__law_dip : Sem := semOf ["_law_well_here", "_law_many", "_law_digit", "_law_step"] b__law_dip
theorem e__law_dip (a0 a1 : SV) (T : Tk) (k : KD) : sm__law_dip [a0, a1] T k = b__law_dip { nx := fun _ T => k .non T, rt := k, bk := fun _ _ => False, ct := fun _ _ => False } [some a0, some a1, none, none] T := rfl
abbrev st__law_of : Stmt := topS 68
theorem sc__law_of : FnScope ["_law_well_here", "_law_some"] ["_law_well_here", "_law_some"] (defScope st__law_of) := ⟨rfl, rfl, rfl, by decide +kernel, rfl, by decide +kernel, by decide +kernel⟩
def b__law_of : dS := sRet (dOp (oF fIx) (dVar 1) (dCall 2 sm__law_dip (aTank 0 (aCons (dBlt (oG fLen) (aCons (dVar 1) (aNil))) (aNil)))))
def sm__law_of : Sem := semOf ["_law_well_here", "_law_some"] b__law_of
theorem e__law_of (a0 a1 : SV) (T : Tk) (k : KD) : sm__law_of [a0, a1] T k = b__law_of { nx := fun _ T => k .non T, rt := k, bk := fun _ _ => False, ct := fun _ _ => False } [some a0, some a1] T := rfl
abbrev st__law_whole : Stmt := topS 69
theorem sc__law_whole : FnScope ["_law_well_here", "_law_wide", "_law_high"] ["_law_well_here", "_law_wide"] (defScope st__law_whole) := ⟨rfl, rfl, rfl, by decide +kernel, rfl, by decide +kernel, by decide +kernel⟩
def b__law_whole : dS := sSeq (sIf (dTst (dOp (oF fLe) (dVar 1) (dC (.int 1000)))) (sRet (dOp (oF fSub) (dCall 2 sm__law_dip (aTank 0 (aCons (dOp (oF fAdd) (dOp (oF fMul) (dC (.int 2)) (dVar 1)) (dC (.int 1))) (aNil)))) (dVar 1))) ((fun k ρ T => k.nx ρ T))) (sSeq (sAsg (dOp (oF fSub) (dCall 2 sm__law_dip (aTank 0 (aCons (dOp (oF fAdd) (dOp (oF fMul) (dC (.int 2)) (dOp (oF fDiv) (dVar 1) (dC (.int 1000)))) (dC (.int 1))) (aNil)))) (dOp (oF fDiv) (dVar 1) (dC (.int 1000)))) (gN 2)) (sRet (dOp (oF fAdd) (dOp (oF fMul) (dC (.int 1000)) (dVar 2)) (dCall 2 sm__law_dip (aTank 0 (aCons (dC (.int 1000)) (aNil)))))))
def sm__law_whole : Sem := semOf ["_law_well_here", "_law_wide", "_law_high"] b__law_whole
theorem e__law_whole (a0 a1 : SV) (T : Tk) (k : KD) : sm__law_whole [a0, a1] T k = b__law_whole { nx := fun _ T => k .non T, rt := k, bk := fun _ _ => False, ct := fun _ _ => False } [some a0, some a1, none] T := rfl
abbrev st__law_rounds : Stmt := topS 70
theorem sc__law_rounds : FnScope ["_law_script"] ["_law_script"] (defScope st__law_rounds) := ⟨rfl, rfl, rfl, by decide +kernel, rfl, by decide +kernel, by decide +kernel⟩
def b__law_rounds : dS := sRet (dBlt (oG (fI2 iMax)) (aCons (dC (.int 2)) (aCons (dBlt (oG (fI2 iMin)) (aCons (dBlt (oG fLen) (aCons (dVar 0) (aNil))) (aCons (dC (.int 3)) (aNil)))) (aNil))))
def sm__law_rounds : Sem := semOf ["_law_script"] b__law_rounds
theorem e__law_rounds (a0 : SV) (T : Tk) (k : KD) : sm__law_rounds [a0] T k = b__law_rounds { nx := fun _ T => k .non T, rt := k, bk := fun _ _ => False, ct := fun _ _ => False } [some a0] T := rfl
abbrev st__law_gcd : Stmt := topS 71
theorem sc__law_gcd : FnScope ["_law_one", "_law_two", "_law_left", "_law_right_here"] ["_law_one", "_law_two"] (defScope st__law_gcd) := ⟨rfl, rfl, rfl, by decide +kernel, rfl, by decide +kernel, by decide +kernel⟩
def b__law_gcd : dS := sSeq (sPar 2 3 (aCons (dBlt (oG (fI1 iAbs)) (aCons (dVar 0) (aNil))) (aCons (dBlt (oG (fI1 iAbs)) (aCons (dVar 1) (aNil))) (aNil)))) (sSeq (sWhile (dTst (dOp (oF fGt) (dVar 3) (dC (.int 0)))) (sPar 2 3 (aCons (dVar 3) (aCons (dOp (oF fMod) (dBlt (oG fInt) (aCons (dVar 2) (aNil))) (dVar 3)) (aNil))))) (sRet (dVar 2)))
def sm__law_gcd : Sem := semOf ["_law_one", "_law_two", "_law_left", "_law_right_here"] b__law_gcd
theorem e__law_gcd (a0 a1 : SV) (T : Tk) (k : KD) : sm__law_gcd [a0, a1] T k = b__law_gcd { nx := fun _ T => k .non T, rt := k, bk := fun _ _ => False, ct := fun _ _ => False } [some a0, some a1, none, none] T := rfl
abbrev st__law_cut : Stmt := topS 72
theorem sc__law_cut : FnScope ["_law_numbers", "_law_part", "_law_number"] ["_law_numbers"] (defScope st__law_cut) := ⟨rfl, rfl, rfl, by decide +kernel, rfl, by decide +kernel, by decide +kernel⟩
def b__law_cut : dS := sSeq (sAsg (dC (.int 0)) (gN 1)) (sSeq (sForI (iQ (dVar 0)) (gN 2) (sAsg (dCall 2 sm__law_gcd (aCons (dVar 1) (aCons (dVar 2) (aNil)))) (gN 1))) (sRet (dBlt (oG fTuple) (aCons (dLc [2] (iQ (dVar 0)) (cN 2) dYes (dOp (oF fDiv) (dVar 2) (dVar 1))) (aNil)))))
def sm__law_cut : Sem := semOf ["_law_numbers", "_law_part", "_law_number"] b__law_cut
theorem e__law_cut (a0 : SV) (T : Tk) (k : KD) : sm__law_cut [a0] T k = b__law_cut { nx := fun _ T => k .non T, rt := k, bk := fun _ _ => False, ct := fun _ _ => False } [some a0, none, none] T := rfl
abbrev st__law_form : Stmt := topS 73
theorem sc__law_form : FnScope ["_law_row", "_law_first", "_law_number"] ["_law_row"] (defScope st__law_form) := ⟨rfl, rfl, rfl, by decide +kernel, rfl, by decide +kernel, by decide +kernel⟩
def b__law_form : dS := sSeq (sAsg (dCall 1 sm__law_cut (aCons (dVar 0) (aNil))) (gN 0)) (sSeq (sAsg (dOp (oF fIx) (dLc [2] (iQ (dVar 0)) (cN 2) (dTst (dOp (oF fNe) (dVar 2) (dC (.int 0)))) (dVar 2)) (dC (.int 0))) (gN 1)) (sRet (dIf (dTst (dOp (oF fGt) (dVar 1) (dC (.int 0)))) (dVar 0) (dBlt (oG fTuple) (aCons (dLc [2] (iQ (dVar 0)) (cN 2) dYes (dOp (oF fSub) (dC (.int 0)) (dVar 2))) (aNil))))))
def sm__law_form : Sem := semOf ["_law_row", "_law_first", "_law_number"] b__law_form
theorem e__law_form (a0 : SV) (T : Tk) (k : KD) : sm__law_form [a0] T k = b__law_form { nx := fun _ T => k .non T, rt := k, bk := fun _ _ => False, ct := fun _ _ => False } [some a0, none, none] T := rfl
abbrev st__law_root : Stmt := topS 74
theorem sc__law_root : FnScope ["_law_number", "_law_low", "_law_high", "_law_turn", "_law_middle"] ["_law_number"] (defScope st__law_root) := ⟨rfl, rfl, rfl, by decide +kernel, rfl, by decide +kernel, by decide +kernel⟩
def b__law_root : dS := sSeq (sPar 1 2 (aCons (dC (.int 0)) (aCons (dOp (oF fShl) (dC (.int 1)) (dOp (oF fAdd) (dOp (oF fDiv) (dOp (oF fBitL) (dVar 0) (dC .non)) (dC (.int 2))) (dC (.int 1)))) (aNil)))) (sSeq (sForI (iR1 (aCons (dOp (oF fAdd) (dOp (oF fDiv) (dOp (oF fBitL) (dVar 0) (dC .non)) (dC (.int 2))) (dC (.int 2))) (aNil))) (gN 3) (sSeq (sAsg (dOp (oF fDiv) (dOp (oF fAdd) (dVar 1) (dVar 2)) (dC (.int 2))) (gN 4)) (sIf (dTst (dOp (oF fLe) (dOp (oF fMul) (dVar 4) (dVar 4)) (dVar 0))) (sAsg (dVar 4) (gN 1)) (sAsg (dVar 4) (gN 2))))) (sRet (dVar 1)))
def sm__law_root : Sem := semOf ["_law_number", "_law_low", "_law_high", "_law_turn", "_law_middle"] b__law_root
theorem e__law_root (a0 : SV) (T : Tk) (k : KD) : sm__law_root [a0] T k = b__law_root { nx := fun _ T => k .non T, rt := k, bk := fun _ _ => False, ct := fun _ _ => False } [some a0, none, none, none, none] T := rfl
abbrev st__law_times : Stmt := topS 75
theorem sc__law_times : FnScope ["_law_x", "_law_y"] ["_law_x", "_law_y"] (defScope st__law_times) := ⟨rfl, rfl, rfl, by decide +kernel, rfl, by decide +kernel, by decide +kernel⟩
def b__law_times : dS := sRet (dTup (aCons (dOp (oF fSub) (dOp (oF fMul) (dOp (oF fIx) (dVar 0) (dC (.int 0))) (dOp (oF fIx) (dVar 1) (dC (.int 0)))) (dOp (oF fMul) (dOp (oF fIx) (dVar 0) (dC (.int 1))) (dOp (oF fIx) (dVar 1) (dC (.int 1))))) (aCons (dOp (oF fAdd) (dOp (oF fMul) (dOp (oF fIx) (dVar 0) (dC (.int 0))) (dOp (oF fIx) (dVar 1) (dC (.int 1)))) (dOp (oF fMul) (dOp (oF fIx) (dVar 0) (dC (.int 1))) (dOp (oF fIx) (dVar 1) (dC (.int 0))))) (aNil))))
def sm__law_times : Sem := semOf ["_law_x", "_law_y"] b__law_times
theorem e__law_times (a0 a1 : SV) (T : Tk) (k : KD) : sm__law_times [a0, a1] T k = b__law_times { nx := fun _ T => k .non T, rt := k, bk := fun _ _ => False, ct := fun _ _ => False } [some a0, some a1] T := rfl
abbrev st__law_plus : Stmt := topS 76
theorem sc__law_plus : FnScope ["_law_x", "_law_y"] ["_law_x", "_law_y"] (defScope st__law_plus) := ⟨rfl, rfl, rfl, by decide +kernel, rfl, by decide +kernel, by decide +kernel⟩
def b__law_plus : dS := sRet (dTup (aCons (dOp (oF fAdd) (dOp (oF fIx) (dVar 0) (dC (.int 0))) (dOp (oF fIx) (dVar 1) (dC (.int 0)))) (aCons (dOp (oF fAdd) (dOp (oF fIx) (dVar 0) (dC (.int 1))) (dOp (oF fIx) (dVar 1) (dC (.int 1)))) (aNil))))
def sm__law_plus : Sem := semOf ["_law_x", "_law_y"] b__law_plus
theorem e__law_plus (a0 a1 : SV) (T : Tk) (k : KD) : sm__law_plus [a0, a1] T k = b__law_plus { nx := fun _ T => k .non T, rt := k, bk := fun _ _ => False, ct := fun _ _ => False } [some a0, some a1] T := rfl
abbrev st__law_minus : Stmt := topS 77
theorem sc__law_minus : FnScope ["_law_x"] ["_law_x"] (defScope st__law_minus) := ⟨rfl, rfl, rfl, by decide +kernel, rfl, by decide +kernel, by decide +kernel⟩
def b__law_minus : dS := sRet (dTup (aCons (dOp (oF fSub) (dC (.int 0)) (dOp (oF fIx) (dVar 0) (dC (.int 0)))) (aCons (dOp (oF fSub) (dC (.int 0)) (dOp (oF fIx) (dVar 0) (dC (.int 1)))) (aNil))))
def sm__law_minus : Sem := semOf ["_law_x"] b__law_minus
theorem e__law_minus (a0 : SV) (T : Tk) (k : KD) : sm__law_minus [a0] T k = b__law_minus { nx := fun _ T => k .non T, rt := k, bk := fun _ _ => False, ct := fun _ _ => False } [some a0] T := rfl
abbrev st__law_conj : Stmt := topS 78
theorem sc__law_conj : FnScope ["_law_x"] ["_law_x"] (defScope st__law_conj) := ⟨rfl, rfl, rfl, by decide +kernel, rfl, by decide +kernel, by decide +kernel⟩
def b__law_conj : dS := sRet (dTup (aCons (dOp (oF fIx) (dVar 0) (dC (.int 0))) (aCons (dOp (oF fSub) (dC (.int 0)) (dOp (oF fIx) (dVar 0) (dC (.int 1)))) (aNil))))
def sm__law_conj : Sem := semOf ["_law_x"] b__law_conj
theorem e__law_conj (a0 : SV) (T : Tk) (k : KD) : sm__law_conj [a0] T k = b__law_conj { nx := fun _ T => k .non T, rt := k, bk := fun _ _ => False, ct := fun _ _ => False } [some a0] T := rfl
abbrev st__law_norm : Stmt := topS 79
theorem sc__law_norm : FnScope ["_law_x"] ["_law_x"] (defScope st__law_norm) := ⟨rfl, rfl, rfl, by decide +kernel, rfl, by decide +kernel, by decide +kernel⟩
def b__law_norm : dS := sRet (dOp (oF fAdd) (dOp (oF fMul) (dOp (oF fIx) (dVar 0) (dC (.int 0))) (dOp (oF fIx) (dVar 0) (dC (.int 0)))) (dOp (oF fMul) (dOp (oF fIx) (dVar 0) (dC (.int 1))) (dOp (oF fIx) (dVar 0) (dC (.int 1)))))
def sm__law_norm : Sem := semOf ["_law_x"] b__law_norm
theorem e__law_norm (a0 : SV) (T : Tk) (k : KD) : sm__law_norm [a0] T k = b__law_norm { nx := fun _ T => k .non T, rt := k, bk := fun _ _ => False, ct := fun _ _ => False } [some a0] T := rfl
abbrev st__law_scaled : Stmt := topS 80
theorem sc__law_scaled : FnScope ["_law_many", "_law_x"] ["_law_many", "_law_x"] (defScope st__law_scaled) := ⟨rfl, rfl, rfl, by decide +kernel, rfl, by decide +kernel, by decide +kernel⟩
def b__law_scaled : dS := sRet (dTup (aCons (dOp (oF fMul) (dVar 0) (dOp (oF fIx) (dVar 1) (dC (.int 0)))) (aCons (dOp (oF fMul) (dVar 0) (dOp (oF fIx) (dVar 1) (dC (.int 1)))) (aNil))))
def sm__law_scaled : Sem := semOf ["_law_many", "_law_x"] b__law_scaled
theorem e__law_scaled (a0 a1 : SV) (T : Tk) (k : KD) : sm__law_scaled [a0, a1] T k = b__law_scaled { nx := fun _ T => k .non T, rt := k, bk := fun _ _ => False, ct := fun _ _ => False } [some a0, some a1] T := rfl
abbrev st__law_over : Stmt := topS 81
theorem sc__law_over : FnScope ["_law_x", "_law_y", "_law_size", "_law_top"] ["_law_x", "_law_y"] (defScope st__law_over) := ⟨rfl, rfl, rfl, by decide +kernel, rfl, by decide +kernel, by decide +kernel⟩
def b__law_over : dS := sSeq (sPar 2 3 (aCons (dCall 1 sm__law_norm (aCons (dVar 1) (aNil))) (aCons (dCall 2 sm__law_times (aCons (dVar 0) (aCons (dCall 1 sm__law_conj (aCons (dVar 1) (aNil))) (aNil)))) (aNil)))) (sRet (dTup (aCons (dOp (oF fDiv) (dOp (oF fIx) (dVar 3) (dC (.int 0))) (dVar 2)) (aCons (dOp (oF fDiv) (dOp (oF fIx) (dVar 3) (dC (.int 1))) (dVar 2)) (aNil)))))
def sm__law_over : Sem := semOf ["_law_x", "_law_y", "_law_size", "_law_top"] b__law_over
theorem e__law_over (a0 a1 : SV) (T : Tk) (k : KD) : sm__law_over [a0, a1] T k = b__law_over { nx := fun _ T => k .non T, rt := k, bk := fun _ _ => False, ct := fun _ _ => False } [some a0, some a1, none, none] T := rfl
abbrev st__law_deep : Stmt := topS 82
theorem sc__law_deep : FnScope ["_law_x", "_law_y", "_law_size", "_law_top", "_law_many"] ["_law_x", "_law_y"] (defScope st__law_deep) := ⟨rfl, rfl, rfl, by decide +kernel, rfl, by decide +kernel, by decide +kernel⟩
def b__law_deep : dS := sSeq (sWhile (dTst (dOp (oF fNe) (dVar 1) (dTup (aCons (dC (.int 0)) (aCons (dC (.int 0)) (aNil)))))) (sSeq (sPar 2 3 (aCons (dCall 1 sm__law_norm (aCons (dVar 1) (aNil))) (aCons (dCall 2 sm__law_times (aCons (dVar 0) (aCons (dCall 1 sm__law_conj (aCons (dVar 1) (aNil))) (aNil)))) (aNil)))) (sSeq (sAsg (dTup (aCons (dOp (oF fDiv) (dOp (oF fAdd) (dOp (oF fMul) (dC (.int 2)) (dOp (oF fIx) (dVar 3) (dC (.int 0)))) (dVar 2)) (dOp (oF fMul) (dC (.int 2)) (dVar 2))) (aCons (dOp (oF fDiv) (dOp (oF fAdd) (dOp (oF fMul) (dC (.int 2)) (dOp (oF fIx) (dVar 3) (dC (.int 1)))) (dVar 2)) (dOp (oF fMul) (dC (.int 2)) (dVar 2))) (aNil)))) (gN 4)) (sPar 0 1 (aCons (dVar 1) (aCons (dCall 2 sm__law_plus (aCons (dVar 0) (aCons (dCall 1 sm__law_minus (aCons (dCall 2 sm__law_times (aCons (dVar 4) (aCons (dVar 1) (aNil)))) (aNil))) (aNil)))) (aNil))))))) (sRet (dVar 0))
def sm__law_deep : Sem := semOf ["_law_x", "_law_y", "_law_size", "_law_top", "_law_many"] b__law_deep
theorem e__law_deep (a0 a1 : SV) (T : Tk) (k : KD) : sm__law_deep [a0, a1] T k = b__law_deep { nx := fun _ T => k .non T, rt := k, bk := fun _ _ => False, ct := fun _ _ => False } [some a0, some a1, none, none, none] T := rfl
abbrev st__law_quarter : Stmt := topS 83
theorem sc__law_quarter : FnScope ["_law_x", "_law_turn"] ["_law_x"] (defScope st__law_quarter) := ⟨rfl, rfl, rfl, by decide +kernel, rfl, by decide +kernel, by decide +kernel⟩
def b__law_quarter : dS := sSeq (sForI (iR1 (aCons (dC (.int 4)) (aNil))) (gN 1) (sSeq (sIf (dAnd (dTst (dOp (oF fGt) (dOp (oF fIx) (dVar 0) (dC (.int 0))) (dC (.int 0)))) (dTst (dOp (oF fGe) (dOp (oF fIx) (dVar 0) (dC (.int 1))) (dC (.int 0))))) (sRet (dVar 0)) ((fun k ρ T => k.nx ρ T))) (sAsg (dTup (aCons (dOp (oF fSub) (dC (.int 0)) (dOp (oF fIx) (dVar 0) (dC (.int 1)))) (aCons (dOp (oF fIx) (dVar 0) (dC (.int 0))) (aNil)))) (gN 0)))) (sRet (dVar 0))
def sm__law_quarter : Sem := semOf ["_law_x", "_law_turn"] b__law_quarter
theorem e__law_quarter (a0 : SV) (T : Tk) (k : KD) : sm__law_quarter [a0] T k = b__law_quarter { nx := fun _ T => k .non T, rt := k, bk := fun _ _ => False, ct := fun _ _ => False } [some a0, none] T := rfl
abbrev st__law_chart : Stmt := topS 84
theorem sc__law_chart : FnScope ["_law_hand", "_law_four_here", "_law_part", "_law_each", "_law_some", "_law_first", "_law_unit", "_law_a", "_law_b", "_law_c", "_law_d"] ["_law_hand", "_law_four_here"] (defScope st__law_chart) := ⟨rfl, rfl, rfl, by decide +kernel, rfl, by decide +kernel, by decide +kernel⟩
def b__law_chart : dS := sSeq (sAsg (dTup (aCons (dC (.int 0)) (aCons (dC (.int 0)) (aNil)))) (gN 2)) (sSeq (sForI (iQ (dVar 1)) (gN 3) (sAsg (dCall 2 sm__law_deep (aCons (dVar 2) (aCons (dVar 3) (aNil)))) (gN 2))) (sSeq (sAsg (dLc [3] (iQ (dVar 1)) (cN 3) dYes (dCall 2 sm__law_over (aCons (dVar 3) (aCons (dVar 2) (aNil))))) (gN 4)) (sSeq (sAsg (dOp (oF fIx) (dLc [3] (iQ (dVar 4)) (cN 3) (dTst (dOp (oF fNe) (dVar 3) (dTup (aCons (dC (.int 0)) (aCons (dC (.int 0)) (aNil)))))) (dVar 3)) (dC (.int 0))) (gN 5)) (sSeq (sAsg (dCall 2 sm__law_over (aCons (dCall 1 sm__law_quarter (aCons (dVar 5) (aNil))) (aCons (dVar 5) (aNil)))) (gN 6)) (sSeq (sAsg (dLc [3] (iQ (dVar 4)) (cN 3) dYes (dCall 2 sm__law_times (aCons (dVar 6) (aCons (dVar 3) (aNil))))) (gTL 4 (gsCons (gN 7) (gsCons (gN 8) (gsCons (gN 9) (gsCons (gN 10) (gsNil))))))) (sRet (dTup (aCons (dVar 0) (aCons (dVar 7) (aCons (dVar 8) (aCons (dVar 9) (aCons (dVar 10) (aNil)))))))))))))
def sm__law_chart : Sem := semOf ["_law_hand", "_law_four_here", "_law_part", "_law_each", "_law_some", "_law_first", "_law_unit", "_law_a", "_law_b", "_law_c", "_law_d"] b__law_chart
theorem e__law_chart (a0 a1 : SV) (T : Tk) (k : KD) : sm__law_chart [a0, a1] T k = b__law_chart { nx := fun _ T => k .non T, rt := k, bk := fun _ _ => False, ct := fun _ _ => False } [some a0, some a1, none, none, none, none, none, none, none, none, none] T := rfl
abbrev st__law_spot : Stmt := topS 85
theorem sc__law_spot : FnScope ["_law_x", "_law_y", "_law_top"] ["_law_x", "_law_y"] (defScope st__law_spot) := ⟨rfl, rfl, rfl, by decide +kernel, rfl, by decide +kernel, by decide +kernel⟩
def b__law_spot : dS := sSeq (sIf (dTst (dOp (oF fEq) (dVar 1) (dTup (aCons (dC (.int 0)) (aCons (dC (.int 0)) (aNil)))))) (sRet (dTup (aCons (dC (.int 1)) (aCons (dC (.int 0)) (aCons (dC (.int 0)) (aNil)))))) ((fun k ρ T => k.nx ρ T))) (sSeq (sAsg (dCall 2 sm__law_times (aCons (dVar 0) (aCons (dCall 1 sm__law_conj (aCons (dVar 1) (aNil))) (aNil)))) (gN 2)) (sRet (dCall 1 sm__law_cut (aCons (dTup (aCons (dOp (oF fIx) (dVar 2) (dC (.int 0))) (aCons (dOp (oF fIx) (dVar 2) (dC (.int 1))) (aCons (dCall 1 sm__law_norm (aCons (dVar 1) (aNil))) (aNil))))) (aNil)))))
def sm__law_spot : Sem := semOf ["_law_x", "_law_y", "_law_top"] b__law_spot
theorem e__law_spot (a0 a1 : SV) (T : Tk) (k : KD) : sm__law_spot [a0, a1] T k = b__law_spot { nx := fun _ T => k .non T, rt := k, bk := fun _ _ => False, ct := fun _ _ => False } [some a0, some a1, none] T := rfl
abbrev st__law_joined : Stmt := topS 86
theorem sc__law_joined : FnScope ["_law_chart_here", "_law_other", "_law_hand", "_law_a", "_law_b", "_law_c", "_law_d", "_law_turn", "_law_e", "_law_f", "_law_g", "_law_h", "_law_one", "_law_two", "_law_three_here", "_law_four_here"] ["_law_chart_here", "_law_other"] (defScope st__law_joined) := ⟨rfl, rfl, rfl, by decide +kernel, rfl, by decide +kernel, by decide +kernel⟩
def b__law_joined : dS := sSeq (sAsg (dVar 0) (gTL 5 (gsCons (gN 2) (gsCons (gN 3) (gsCons (gN 4) (gsCons (gN 5) (gsCons (gN 6) (gsNil)))))))) (sSeq (sAsg (dVar 1) (gTL 5 (gsCons (gN 7) (gsCons (gN 8) (gsCons (gN 9) (gsCons (gN 10) (gsCons (gN 11) (gsNil)))))))) (sSeq (sIf (dTst (dOp (oF fEq) (dVar 2) (dC (.int 1)))) (sAsg (dTup (aCons (dCall 1 sm__law_conj (aCons (dVar 8) (aNil))) (aCons (dCall 1 sm__law_conj (aCons (dVar 9) (aNil))) (aCons (dCall 1 sm__law_conj (aCons (dVar 10) (aNil))) (aCons (dCall 1 sm__law_conj (aCons (dVar 11) (aNil))) (aNil)))))) (gTL 4 (gsCons (gN 8) (gsCons (gN 9) (gsCons (gN 10) (gsCons (gN 11) (gsNil))))))) ((fun k ρ T => k.nx ρ T))) (sSeq (sPar 12 13 (aCons (dCall 2 sm__law_plus (aCons (dCall 2 sm__law_times (aCons (dVar 3) (aCons (dVar 8) (aNil)))) (aCons (dCall 2 sm__law_times (aCons (dVar 4) (aCons (dVar 10) (aNil)))) (aNil)))) (aCons (dCall 2 sm__law_plus (aCons (dCall 2 sm__law_times (aCons (dVar 3) (aCons (dVar 9) (aNil)))) (aCons (dCall 2 sm__law_times (aCons (dVar 4) (aCons (dVar 11) (aNil)))) (aNil)))) (aNil)))) (sSeq (sPar 14 15 (aCons (dCall 2 sm__law_plus (aCons (dCall 2 sm__law_times (aCons (dVar 5) (aCons (dVar 8) (aNil)))) (aCons (dCall 2 sm__law_times (aCons (dVar 6) (aCons (dVar 10) (aNil)))) (aNil)))) (aCons (dCall 2 sm__law_plus (aCons (dCall 2 sm__law_times (aCons (dVar 5) (aCons (dVar 9) (aNil)))) (aCons (dCall 2 sm__law_times (aCons (dVar 6) (aCons (dVar 11) (aNil)))) (aNil)))) (aNil)))) (sRet (dTup (aCons (dOp (oF fSub) (dOp (oF fAdd) (dVar 2) (dVar 7)) (dOp (oF fMul) (dOp (oF fMul) (dC (.int 2)) (dVar 2)) (dVar 7))) (aCons (dVar 12) (aCons (dVar 13) (aCons (dVar 14) (aCons (dVar 15) (aNil))))))))))))
def sm__law_joined : Sem := semOf ["_law_chart_here", "_law_other", "_law_hand", "_law_a", "_law_b", "_law_c", "_law_d", "_law_turn", "_law_e", "_law_f", "_law_g", "_law_h", "_law_one", "_law_two", "_law_three_here", "_law_four_here"] b__law_joined
theorem e__law_joined (a0 a1 : SV) (T : Tk) (k : KD) : sm__law_joined [a0, a1] T k = b__law_joined { nx := fun _ T => k .non T, rt := k, bk := fun _ _ => False, ct := fun _ _ => False } [some a0, some a1, none, none, none, none, none, none, none, none, none, none, none, none, none, none] T := rfl
abbrev st__law_after : Stmt := topS 87
theorem sc__law_after : FnScope ["_law_chart_here", "_law_other", "_law_hand", "_law_a", "_law_b", "_law_c", "_law_d"] ["_law_chart_here", "_law_other"] (defScope st__law_after) := ⟨rfl, rfl, rfl, by decide +kernel, rfl, by decide +kernel, by decide +kernel⟩
def b__law_after : dS := sSeq (sAsg (dCall 2 sm__law_joined (aCons (dVar 0) (aCons (dVar 1) (aNil)))) (gTL 5 (gsCons (gN 2) (gsCons (gN 3) (gsCons (gN 4) (gsCons (gN 5) (gsCons (gN 6) (gsNil)))))))) (sRet (dCall 2 sm__law_chart (aCons (dVar 2) (aCons (dLst (aCons (dVar 3) (aCons (dVar 4) (aCons (dVar 5) (aCons (dVar 6) (aNil)))))) (aNil)))))
def sm__law_after : Sem := semOf ["_law_chart_here", "_law_other", "_law_hand", "_law_a", "_law_b", "_law_c", "_law_d"] b__law_after
theorem e__law_after (a0 a1 : SV) (T : Tk) (k : KD) : sm__law_after [a0, a1] T k = b__law_after { nx := fun _ T => k .non T, rt := k, bk := fun _ _ => False, ct := fun _ _ => False } [some a0, some a1, none, none, none, none, none] T := rfl
abbrev st__law_back : Stmt := topS 88
theorem sc__law_back : FnScope ["_law_chart_here", "_law_hand", "_law_a", "_law_b", "_law_c", "_law_d"] ["_law_chart_here"] (defScope st__law_back) := ⟨rfl, rfl, rfl, by decide +kernel, rfl, by decide +kernel, by decide +kernel⟩
def b__law_back : dS := sSeq (sAsg (dVar 0) (gTL 5 (gsCons (gN 1) (gsCons (gN 2) (gsCons (gN 3) (gsCons (gN 4) (gsCons (gN 5) (gsNil)))))))) (sSeq (sIf (dTst (dOp (oF fEq) (dVar 1) (dC (.int 1)))) (sAsg (dTup (aCons (dCall 1 sm__law_conj (aCons (dVar 2) (aNil))) (aCons (dCall 1 sm__law_conj (aCons (dVar 3) (aNil))) (aCons (dCall 1 sm__law_conj (aCons (dVar 4) (aNil))) (aCons (dCall 1 sm__law_conj (aCons (dVar 5) (aNil))) (aNil)))))) (gTL 4 (gsCons (gN 2) (gsCons (gN 3) (gsCons (gN 4) (gsCons (gN 5) (gsNil))))))) ((fun k ρ T => k.nx ρ T))) (sRet (dTup (aCons (dVar 1) (aCons (dVar 5) (aCons (dCall 1 sm__law_minus (aCons (dVar 3) (aNil))) (aCons (dCall 1 sm__law_minus (aCons (dVar 4) (aNil))) (aCons (dVar 2) (aNil)))))))))
def sm__law_back : Sem := semOf ["_law_chart_here", "_law_hand", "_law_a", "_law_b", "_law_c", "_law_d"] b__law_back
theorem e__law_back (a0 : SV) (T : Tk) (k : KD) : sm__law_back [a0] T k = b__law_back { nx := fun _ T => k .non T, rt := k, bk := fun _ _ => False, ct := fun _ _ => False } [some a0, none, none, none, none, none] T := rfl
abbrev st__law_mirror : Stmt := topS 89
theorem sc__law_mirror : FnScope ["_law_row", "_law_q", "_law_l", "_law_m", "_law_k"] ["_law_row"] (defScope st__law_mirror) := ⟨rfl, rfl, rfl, by decide +kernel, rfl, by decide +kernel, by decide +kernel⟩
def b__law_mirror : dS := sSeq (sAsg (dVar 0) (gTL 4 (gsCons (gN 1) (gsCons (gN 2) (gsCons (gN 3) (gsCons (gN 4) (gsNil))))))) (sRet (dCall 2 sm__law_chart (aCons (dC (.int 1)) (aCons (dLst (aCons (dTup (aCons (dOp (oF fSub) (dC (.int 0)) (dVar 2)) (aCons (dOp (oF fSub) (dC (.int 0)) (dVar 3)) (aNil)))) (aCons (dTup (aCons (dOp (oF fSub) (dC (.int 0)) (dOp (oF fMul) (dC (.int 2)) (dVar 4))) (aCons (dC (.int 0)) (aNil)))) (aCons (dTup (aCons (dOp (oF fMul) (dC (.int 2)) (dVar 1)) (aCons (dC (.int 0)) (aNil)))) (aCons (dTup (aCons (dVar 2) (aCons (dOp (oF fSub) (dC (.int 0)) (dVar 3)) (aNil)))) (aNil)))))) (aNil)))))
def sm__law_mirror : Sem := semOf ["_law_row", "_law_q", "_law_l", "_law_m", "_law_k"] b__law_mirror
theorem e__law_mirror (a0 : SV) (T : Tk) (k : KD) : sm__law_mirror [a0] T k = b__law_mirror { nx := fun _ T => k .non T, rt := k, bk := fun _ _ => False, ct := fun _ _ => False } [some a0, none, none, none, none] T := rfl
abbrev st__law_place : Stmt := topS 90
theorem sc__law_place : FnScope ["_law_well_here", "_law_wide", "_law_p", "_law_s"] ["_law_well_here", "_law_wide"] (defScope st__law_place) := ⟨rfl, rfl, rfl, by decide +kernel, rfl, by decide +kernel, by decide +kernel⟩
def b__law_place : dS := sSeq (sIf (dTst (dOp (oF fEq) (dCall 2 sm__law_dip (aTank 0 (aCons (dC (.int 9)) (aNil)))) (dC (.int 0)))) (sRet (dTup (aCons (dC (.int 1)) (aCons (dC (.int 0)) (aCons (dC (.int 0)) (aNil)))))) ((fun k ρ T => k.nx ρ T))) (sSeq (sPar 2 3 (aCons (dCall 2 sm__law_whole (aTank 0 (aCons (dVar 1) (aNil)))) (aCons (dCall 2 sm__law_whole (aTank 0 (aCons (dVar 1) (aNil)))) (aNil)))) (sRet (dCall 1 sm__law_cut (aCons (dTup (aCons (dVar 2) (aCons (dVar 3) (aCons (dOp (oF fAdd) (dC (.int 1)) (dCall 2 sm__law_dip (aTank 0 (aCons (dBlt (oG (fI2 iMin)) (aCons (dVar 1) (aCons (dC (.int 1000)) (aNil)))) (aNil))))) (aNil))))) (aNil)))))
def sm__law_place : Sem := semOf ["_law_well_here", "_law_wide", "_law_p", "_law_s"] b__law_place
theorem e__law_place (a0 a1 : SV) (T : Tk) (k : KD) : sm__law_place [a0, a1] T k = b__law_place { nx := fun _ T => k .non T, rt := k, bk := fun _ _ => False, ct := fun _ _ => False } [some a0, some a1, none, none] T := rfl
abbrev st__law_unlike : Stmt := topS 91
theorem sc__law_unlike : FnScope ["_law_well_here", "_law_many", "_law_wide", "_law_found", "_law_turn", "_law_p", "_law_s", "_law_r", "_law_some", "_law_step", "_law_each"] ["_law_well_here", "_law_many", "_law_wide"] (defScope st__law_unlike) := ⟨rfl, rfl, rfl, by decide +kernel, rfl, by decide +kernel, by decide +kernel⟩
def b__law_unlike : dS := sSeq (sOwn 3 (aNil)) (sSeq (sForI (iR1 (aCons (dVar 1) (aNil))) (gN 4) (sSeq (sAsg (dCall 2 sm__law_place (aTank 0 (aCons (dVar 2) (aNil)))) (gTL 3 (gsCons (gN 5) (gsCons (gN 6) (gsCons (gN 7) (gsNil)))))) (sSeq (sAsg (dLc [9] (iR1 (aCons (dOp (oF fAdd) (dVar 4) (dC (.int 1))) (aNil))) (cN 9) dYes (dIf (dTst (dOp (oF fGt) (dVar 7) (dC (.int 0)))) (dTup (aCons (dOp (oF fAdd) (dVar 5) (dOp (oF fMul) (dVar 9) (dVar 7))) (aCons (dVar 6) (aCons (dVar 7) (aNil))))) (dTup (aCons (dVar 5) (aCons (dVar 6) (aCons (dVar 7) (aNil))))))) (gN 8)) (sSeq (sIf (dTst (dOp (oF fEq) (dVar 7) (dC (.int 0)))) (sAsg (dOp (oF fAdd) (dVar 8) (dLc [9] (iR1 (aCons (dVar 4) (aNil))) (cN 9) dYes (dTup (aCons (dVar 9) (aCons (dC (.int 1)) (aCons (dC (.int 1)) (aNil))))))) (gN 8)) ((fun k ρ T => k.nx ρ T))) (sApp 3 (dView 3 (dOp (oF fIx) (dLc [10] (iQ (dVar 8)) (cN 10) (dViewT 3 (dTst (dOp (oF fNotInS) (dVar 10) (dVar 3)))) (dVar 10)) (dC (.int 0))))))))) (sFrq 3 (sRet (dVar 3))))
def sm__law_unlike : Sem := semOf ["_law_well_here", "_law_many", "_law_wide", "_law_found", "_law_turn", "_law_p", "_law_s", "_law_r", "_law_some", "_law_step", "_law_each"] b__law_unlike
theorem e__law_unlike (a0 a1 a2 : SV) (T : Tk) (k : KD) : sm__law_unlike [a0, a1, a2] T k = b__law_unlike { nx := fun _ T => k .non T, rt := k, bk := fun _ _ => False, ct := fun _ _ => False } [some a0, some a1, some a2, none, none, none, none, none, none, none, none] T := rfl
abbrev st__law_round : Stmt := topS 92
theorem sc__law_round : FnScope ["_law_well_here", "_law_wide", "_law_q", "_law_l", "_law_m", "_law_k", "_law_turn"] ["_law_well_here", "_law_wide"] (defScope st__law_round) := ⟨rfl, rfl, rfl, by decide +kernel, rfl, by decide +kernel, by decide +kernel⟩
def b__law_round : dS := sSeq (sAsg (dLc [6] (iR1 (aCons (dC (.int 4)) (aNil))) (cN 6) dYes (dCall 2 sm__law_whole (aTank 0 (aCons (dVar 1) (aNil))))) (gTL 4 (gsCons (gN 2) (gsCons (gN 3) (gsCons (gN 4) (gsCons (gN 5) (gsNil))))))) (sSeq (sIf (dTst (dOp (oF fEq) (dCall 2 sm__law_dip (aTank 0 (aCons (dC (.int 3)) (aNil)))) (dC (.int 0)))) (sAsg (dC (.int 0)) (gN 2)) ((fun k ρ T => k.nx ρ T))) (sSeq (sIf (dTst (dOp (oF fEq) (dTup (aCons (dVar 2) (aCons (dVar 3) (aCons (dVar 4) (aNil))))) (dTup (aCons (dC (.int 0)) (aCons (dC (.int 0)) (aCons (dC (.int 0)) (aNil))))))) (sAsg (dC (.int 1)) (gN 3)) ((fun k ρ T => k.nx ρ T))) (sSeq (sIf (dTst (dOp (oF fLe) (dOp (oF fAdd) (dOp (oF fMul) (dVar 3) (dVar 3)) (dOp (oF fMul) (dVar 4) (dVar 4))) (dOp (oF fMul) (dOp (oF fMul) (dC (.int 4)) (dVar 2)) (dVar 5)))) (sAsg (dIf (dTst (dOp (oF fNe) (dVar 5) (dC (.int 0)))) (dOp (oF fSub) (dC (.int 0)) (dVar 5)) (dOp (oF fSub) (dC (.int 0)) (dVar 2))) (gN 5)) ((fun k ρ T => k.nx ρ T))) (sRet (dCall 1 sm__law_form (aCons (dTup (aCons (dVar 2) (aCons (dVar 3) (aCons (dVar 4) (aCons (dVar 5) (aNil)))))) (aNil)))))))
def sm__law_round : Sem := semOf ["_law_well_here", "_law_wide", "_law_q", "_law_l", "_law_m", "_law_k", "_law_turn"] b__law_round
theorem e__law_round (a0 a1 : SV) (T : Tk) (k : KD) : sm__law_round [a0, a1] T k = b__law_round { nx := fun _ T => k .non T, rt := k, bk := fun _ _ => False, ct := fun _ _ => False } [some a0, some a1, none, none, none, none, none] T := rfl
abbrev st__law_nonzero : Stmt := topS 93
theorem sc__law_nonzero : FnScope ["_law_well_here", "_law_wide", "_law_found"] ["_law_well_here", "_law_wide"] (defScope st__law_nonzero) := ⟨rfl, rfl, rfl, by decide +kernel, rfl, by decide +kernel, by decide +kernel⟩
def b__law_nonzero : dS := sSeq (sAsg (dTup (aCons (dCall 2 sm__law_whole (aTank 0 (aCons (dVar 1) (aNil)))) (aCons (dCall 2 sm__law_whole (aTank 0 (aCons (dVar 1) (aNil)))) (aNil)))) (gN 2)) (sRet (dIf (dTst (dOp (oF fNe) (dVar 2) (dTup (aCons (dC (.int 0)) (aCons (dC (.int 0)) (aNil)))))) (dVar 2) (dTup (aCons (dOp (oF fSub) (dC (.int 0)) (dVar 1)) (aCons (dC (.int 1)) (aNil))))))
def sm__law_nonzero : Sem := semOf ["_law_well_here", "_law_wide", "_law_found"] b__law_nonzero
theorem e__law_nonzero (a0 a1 : SV) (T : Tk) (k : KD) : sm__law_nonzero [a0, a1] T k = b__law_nonzero { nx := fun _ T => k .non T, rt := k, bk := fun _ _ => False, ct := fun _ _ => False } [some a0, some a1, none] T := rfl
abbrev st__law_four : Stmt := topS 94
theorem sc__law_four : FnScope ["_law_well_here", "_law_wide", "_law_a", "_law_b", "_law_c", "_law_d", "_law_turn"] ["_law_well_here", "_law_wide"] (defScope st__law_four) := ⟨rfl, rfl, rfl, by decide +kernel, rfl, by decide +kernel, by decide +kernel⟩
def b__law_four : dS := sSeq (sAsg (dLc [6] (iR1 (aCons (dC (.int 4)) (aNil))) (cN 6) dYes (dTup (aCons (dCall 2 sm__law_whole (aTank 0 (aCons (dVar 1) (aNil)))) (aCons (dCall 2 sm__law_whole (aTank 0 (aCons (dVar 1) (aNil)))) (aNil))))) (gTL 4 (gsCons (gN 2) (gsCons (gN 3) (gsCons (gN 4) (gsCons (gN 5) (gsNil))))))) (sSeq (sIf (dTst (dOp (oF fEq) (dCall 2 sm__law_times (aCons (dVar 2) (aCons (dVar 5) (aNil)))) (dCall 2 sm__law_times (aCons (dVar 3) (aCons (dVar 4) (aNil)))))) (sIf (dTst (dOp (oF fEq) (dVar 2) (dTup (aCons (dC (.int 0)) (aCons (dC (.int 0)) (aNil)))))) (sAsg (dTup (aCons (dTup (aCons (dC (.int 1)) (aCons (dC (.int 0)) (aNil)))) (aCons (dTup (aCons (dC (.int 0)) (aCons (dC (.int 0)) (aNil)))) (aCons (dTup (aCons (dC (.int 0)) (aCons (dC (.int 1)) (aNil)))) (aNil))))) (gTL 3 (gsCons (gN 2) (gsCons (gN 4) (gsCons (gN 5) (gsNil)))))) (sAsg (dTup (aCons (dOp (oF fAdd) (dOp (oF fIx) (dVar 5) (dC (.int 0))) (dC (.int 1))) (aCons (dOp (oF fIx) (dVar 5) (dC (.int 1))) (aNil)))) (gN 5))) ((fun k ρ T => k.nx ρ T))) (sRet (dLst (aCons (dVar 2) (aCons (dVar 3) (aCons (dVar 4) (aCons (dVar 5) (aNil))))))))
def sm__law_four : Sem := semOf ["_law_well_here", "_law_wide", "_law_a", "_law_b", "_law_c", "_law_d", "_law_turn"] b__law_four
theorem e__law_four (a0 a1 : SV) (T : Tk) (k : KD) : sm__law_four [a0, a1] T k = b__law_four { nx := fun _ T => k .non T, rt := k, bk := fun _ _ => False, ct := fun _ _ => False } [some a0, some a1, none, none, none, none, none] T := rfl
abbrev st__law_map : Stmt := topS 95
theorem sc__law_map : FnScope ["_law_well_here", "_law_wide", "_law_hand"] ["_law_well_here", "_law_wide"] (defScope st__law_map) := ⟨rfl, rfl, rfl, by decide +kernel, rfl, by decide +kernel, by decide +kernel⟩
def b__law_map : dS := sSeq (sAsg (dCall 2 sm__law_dip (aTank 0 (aCons (dC (.int 2)) (aNil)))) (gN 2)) (sRet (dCall 2 sm__law_chart (aCons (dVar 2) (aCons (dCall 2 sm__law_four (aTank 0 (aCons (dVar 1) (aNil)))) (aNil)))))
def sm__law_map : Sem := semOf ["_law_well_here", "_law_wide", "_law_hand"] b__law_map
theorem e__law_map (a0 a1 : SV) (T : Tk) (k : KD) : sm__law_map [a0, a1] T k = b__law_map { nx := fun _ T => k .non T, rt := k, bk := fun _ _ => False, ct := fun _ _ => False } [some a0, some a1, none] T := rfl
abbrev st__law_three : Stmt := topS 96
theorem sc__law_three : FnScope ["_law_u", "_law_v", "_law_w", "_law_x", "_law_y", "_law_z", "_law_one", "_law_two"] ["_law_u", "_law_v", "_law_w"] (defScope st__law_three) := ⟨rfl, rfl, rfl, by decide +kernel, rfl, by decide +kernel, by decide +kernel⟩
def b__law_three : dS := sSeq (sPar3 3 4 5 (aCons (dTup (aCons (dOp (oF fIx) (dVar 0) (dC (.int 0))) (aCons (dOp (oF fIx) (dVar 0) (dC (.int 1))) (aNil)))) (aCons (dTup (aCons (dOp (oF fIx) (dVar 1) (dC (.int 0))) (aCons (dOp (oF fIx) (dVar 1) (dC (.int 1))) (aNil)))) (aCons (dTup (aCons (dOp (oF fIx) (dVar 2) (dC (.int 0))) (aCons (dOp (oF fIx) (dVar 2) (dC (.int 1))) (aNil)))) (aNil))))) (sSeq (sAsg (dCall 2 sm__law_plus (aCons (dCall 2 sm__law_scaled (aCons (dOp (oF fIx) (dVar 1) (dC (.int 2))) (aCons (dVar 5) (aNil)))) (aCons (dCall 1 sm__law_minus (aCons (dCall 2 sm__law_scaled (aCons (dOp (oF fIx) (dVar 2) (dC (.int 2))) (aCons (dVar 4) (aNil)))) (aNil))) (aNil)))) (gN 6)) (sSeq (sAsg (dCall 2 sm__law_plus (aCons (dCall 2 sm__law_scaled (aCons (dOp (oF fIx) (dVar 0) (dC (.int 2))) (aCons (dVar 5) (aNil)))) (aCons (dCall 1 sm__law_minus (aCons (dCall 2 sm__law_scaled (aCons (dOp (oF fIx) (dVar 2) (dC (.int 2))) (aCons (dVar 3) (aNil)))) (aNil))) (aNil)))) (gN 7)) (sRet (dTup (aCons (dC (.int 0)) (aCons (dCall 2 sm__law_scaled (aCons (dOp (oF fIx) (dVar 0) (dC (.int 2))) (aCons (dVar 6) (aNil)))) (aCons (dCall 1 sm__law_minus (aCons (dCall 2 sm__law_times (aCons (dVar 3) (aCons (dVar 6) (aNil)))) (aNil))) (aCons (dCall 2 sm__law_scaled (aCons (dOp (oF fIx) (dVar 1) (dC (.int 2))) (aCons (dVar 7) (aNil)))) (aCons (dCall 1 sm__law_minus (aCons (dCall 2 sm__law_times (aCons (dVar 4) (aCons (dVar 7) (aNil)))) (aNil))) (aNil))))))))))
def sm__law_three : Sem := semOf ["_law_u", "_law_v", "_law_w", "_law_x", "_law_y", "_law_z", "_law_one", "_law_two"] b__law_three
theorem e__law_three (a0 a1 a2 : SV) (T : Tk) (k : KD) : sm__law_three [a0, a1, a2] T k = b__law_three { nx := fun _ T => k .non T, rt := k, bk := fun _ _ => False, ct := fun _ _ => False } [some a0, some a1, some a2, none, none, none, none, none] T := rfl
abbrev st__law_complex_root : Stmt := topS 97
theorem sc__law_complex_root : FnScope ["_law_number", "_law_size", "_law_one", "_law_two", "_law_found"] ["_law_number"] (defScope st__law_complex_root) := ⟨rfl, rfl, rfl, by decide +kernel, rfl, by decide +kernel, by decide +kernel⟩
def b__law_complex_root : dS := sSeq (sAsg (dCall 1 sm__law_root (aCons (dCall 1 sm__law_norm (aCons (dVar 0) (aNil))) (aNil))) (gN 1)) (sSeq (sPar 2 3 (aCons (dCall 1 sm__law_root (aCons (dOp (oF fDiv) (dOp (oF fAdd) (dVar 1) (dOp (oF fIx) (dVar 0) (dC (.int 0)))) (dC (.int 2))) (aNil))) (aCons (dCall 1 sm__law_root (aCons (dOp (oF fDiv) (dOp (oF fSub) (dVar 1) (dOp (oF fIx) (dVar 0) (dC (.int 0)))) (dC (.int 2))) (aNil))) (aNil)))) (sSeq (sForI (iQ (dLst (aCons (dTup (aCons (dVar 2) (aCons (dVar 3) (aNil)))) (aCons (dTup (aCons (dVar 2) (aCons (dOp (oF fSub) (dC (.int 0)) (dVar 3)) (aNil)))) (aNil))))) (gN 4) (sIf (dTst (dOp (oF fEq) (dCall 2 sm__law_times (aCons (dVar 4) (aCons (dVar 4) (aNil)))) (dVar 0))) (sRet (dVar 4)) ((fun k ρ T => k.nx ρ T)))) (sRet (dC .non))))
def sm__law_complex_root : Sem := semOf ["_law_number", "_law_size", "_law_one", "_law_two", "_law_found"] b__law_complex_root
theorem e__law_complex_root (a0 : SV) (T : Tk) (k : KD) : sm__law_complex_root [a0] T k = b__law_complex_root { nx := fun _ T => k .non T, rt := k, bk := fun _ _ => False, ct := fun _ _ => False } [some a0, none, none, none, none] T := rfl
abbrev st__law_inner : Stmt := topS 98
theorem sc__law_inner : FnScope ["_law_well_here", "_law_way", "_law_few", "_law_wide", "_law_other", "_law_one", "_law_none", "_law_turn"] ["_law_well_here", "_law_way", "_law_few", "_law_wide"] (defScope st__law_inner) := ⟨rfl, rfl, rfl, by decide +kernel, rfl, by decide +kernel, by decide +kernel⟩
def b__law_inner : dS := sSeq (sPar3 4 5 6 (aCons (dCall 2 sm__law_nonzero (aTank 0 (aCons (dVar 3) (aNil)))) (aCons (dTup (aCons (dC (.int 1)) (aCons (dC (.int 0)) (aNil)))) (aCons (dTup (aCons (dC (.int 0)) (aCons (dC (.int 0)) (aNil)))) (aNil))))) (sSeq (sIf (dTst (dOp (oF fEq) (dVar 1) (dC (.int 2)))) (sRet (dTup (aCons (dC (.int 0)) (aCons (dIf (dTst (dOp (oF fNe) (dVar 4) (dVar 2))) (dVar 4) (dCall 2 sm__law_plus (aCons (dVar 2) (aCons (dVar 2) (aNil))))) (aCons (dVar 6) (aCons (dVar 6) (aCons (dVar 2) (aNil)))))))) ((fun k ρ T => k.nx ρ T))) (sSeq (sIf (dTst (dOp (oF fEq) (dVar 1) (dC (.int 3)))) (sRet (dTup (aCons (dC (.int 0)) (aCons (dVar 5) (aCons (dVar 4) (aCons (dVar 6) (aCons (dVar 5) (aNil)))))))) ((fun k ρ T => k.nx ρ T))) (sSeq (sIf (dTst (dOp (oF fEq) (dVar 1) (dC (.int 4)))) (sRet (dTup (aCons (dC (.int 1)) (aCons (dIf (dTst (dOp (oF fNe) (dCall 1 sm__law_norm (aCons (dVar 4) (aNil))) (dCall 1 sm__law_norm (aCons (dVar 2) (aNil))))) (dVar 4) (dCall 2 sm__law_plus (aCons (dVar 4) (aCons (dVar 4) (aNil))))) (aCons (dVar 6) (aCons (dVar 6) (aCons (dVar 2) (aNil)))))))) ((fun k ρ T => k.nx ρ T))) (sSeq (sIf (dTst (dOp (oF fEq) (dVar 1) (dC (.int 5)))) (sSeq (sAsg (dIf (dOr (dTst (dOp (oF fNe) (dOp (oF fIx) (dVar 4) (dC (.int 1))) (dC (.int 0)))) (dTst (dOp (oF fLt) (dOp (oF fIx) (dVar 4) (dC (.int 0))) (dC (.int 0))))) (dVar 4) (dCall 1 sm__law_minus (aCons (dVar 4) (aNil)))) (gN 7)) (sRet (dTup (aCons (dC (.int 1)) (aCons (dVar 6) (aCons (dCall 2 sm__law_times (aCons (dVar 2) (aCons (dVar 7) (aNil)))) (aCons (dVar 2) (aCons (dVar 6) (aNil))))))))) ((fun k ρ T => k.nx ρ T))) (sRet (dTup (aCons (dC (.int 1)) (aCons (dVar 2) (aCons (dTup (aCons (dIf (dTst (dOp (oF fNe) (dOp (oF fIx) (dVar 4) (dC (.int 0))) (dC (.int 0)))) (dOp (oF fIx) (dVar 4) (dC (.int 0))) (dC (.int 1))) (aCons (dOp (oF fIx) (dVar 4) (dC (.int 1))) (aNil)))) (aCons (dVar 6) (aCons (dCall 1 sm__law_conj (aCons (dVar 2) (aNil))) (aNil))))))))))))
def sm__law_inner : Sem := semOf ["_law_well_here", "_law_way", "_law_few", "_law_wide", "_law_other", "_law_one", "_law_none", "_law_turn"] b__law_inner
theorem e__law_inner (a0 a1 a2 a3 : SV) (T : Tk) (k : KD) : sm__law_inner [a0, a1, a2, a3] T k = b__law_inner { nx := fun _ T => k .non T, rt := k, bk := fun _ _ => False, ct := fun _ _ => False } [some a0, some a1, some a2, some a3, none, none, none, none] T := rfl
abbrev st__law_any : Stmt := topS 99
theorem sc__law_any : FnScope ["_law_well_here", "_law_wide", "_law_a", "_law_b", "_law_c", "_law_d", "_law_chart_here", "_law_gap", "_law_spread", "_law_root_here", "_law_found", "_law_each"] ["_law_well_here", "_law_wide"] (defScope st__law_any) := ⟨rfl, rfl, rfl, by decide +kernel, rfl, by decide +kernel, by decide +kernel⟩
def b__law_any : dS := sSeq (sAsg (dCall 2 sm__law_four (aTank 0 (aCons (dVar 1) (aNil)))) (gTL 4 (gsCons (gN 2) (gsCons (gN 3) (gsCons (gN 4) (gsCons (gN 5) (gsNil))))))) (sSeq (sAsg (dTup (aCons (dCall 2 sm__law_chart (aCons (dC (.int 0)) (aCons (dLst (aCons (dVar 2) (aCons (dVar 3) (aCons (dVar 4) (aCons (dVar 5) (aNil)))))) (aNil)))) (aCons (dCall 2 sm__law_plus (aCons (dVar 2) (aCons (dCall 1 sm__law_minus (aCons (dVar 5) (aNil))) (aNil)))) (aNil)))) (gTL 2 (gsCons (gN 6) (gsCons (gN 7) (gsNil))))) (sSeq (sIf (dTst (dOp (oF fEq) (dTup (aCons (dVar 3) (aCons (dVar 4) (aCons (dVar 7) (aNil))))) (dTup (aCons (dTup (aCons (dC (.int 0)) (aCons (dC (.int 0)) (aNil)))) (aCons (dTup (aCons (dC (.int 0)) (aCons (dC (.int 0)) (aNil)))) (aCons (dTup (aCons (dC (.int 0)) (aCons (dC (.int 0)) (aNil)))) (aNil))))))) (sRet (dLst (aCons (dVar 6) (aCons (dTup (aCons (dC (.str "all")) (aNil))) (aNil))))) ((fun k ρ T => k.nx ρ T))) (sSeq (sAsg (dCall 2 sm__law_plus (aCons (dCall 2 sm__law_times (aCons (dVar 7) (aCons (dVar 7) (aNil)))) (aCons (dCall 2 sm__law_scaled (aCons (dC (.int 4)) (aCons (dCall 2 sm__law_times (aCons (dVar 3) (aCons (dVar 4) (aNil)))) (aNil)))) (aNil)))) (gN 8)) (sSeq (sPar 9 10 (aCons (dCall 1 sm__law_complex_root (aCons (dVar 8) (aNil))) (aCons (dLst (aNil)) (aNil)))) (sSeq (sIf (dTst (dOp (oF fEq) (dVar 4) (dTup (aCons (dC (.int 0)) (aCons (dC (.int 0)) (aNil)))))) (sAsg (dOp (oF fAdd) (dLst (aCons (dTup (aCons (dC (.int 1)) (aCons (dC (.int 0)) (aCons (dC (.int 0)) (aNil))))) (aNil))) (dIf (dTst (dOp (oF fNe) (dVar 7) (dTup (aCons (dC (.int 0)) (aCons (dC (.int 0)) (aNil)))))) (dLst (aCons (dCall 2 sm__law_spot (aCons (dVar 3) (aCons (dCall 1 sm__law_minus (aCons (dVar 7) (aNil))) (aNil)))) (aNil))) (dLst (aNil)))) (gN 10)) (sIf (dTst (dNotN (dVar 9))) (sAsg (dLc [11] (iQ (dTup (aCons (dVar 9) (aCons (dCall 1 sm__law_minus (aCons (dVar 9) (aNil))) (aNil))))) (cN 11) dYes (dCall 2 sm__law_spot (aCons (dCall 2 sm__law_plus (aCons (dVar 7) (aCons (dVar 11) (aNil)))) (aCons (dCall 2 sm__law_scaled (aCons (dC (.int 2)) (aCons (dVar 4) (aNil)))) (aNil))))) (gN 10)) ((fun k ρ T => k.nx ρ T)))) (sRet (dLst (aCons (dVar 6) (aCons (dTup (aCons (dC (.str "places")) (aCons (dIf (dTst (dOp (oF fEq) (dVar 8) (dTup (aCons (dC (.int 0)) (aCons (dC (.int 0)) (aNil)))))) (dC (.int 1)) (dC (.int 2))) (aCons (dBlt (oG fTuple) (aCons (dBlt (oG fSortS) (aCons (dVar 10) (aNil))) (aNil))) (aNil))))) (aNil))))))))))
def sm__law_any : Sem := semOf ["_law_well_here", "_law_wide", "_law_a", "_law_b", "_law_c", "_law_d", "_law_chart_here", "_law_gap", "_law_spread", "_law_root_here", "_law_found", "_law_each"] b__law_any
theorem e__law_any (a0 a1 : SV) (T : Tk) (k : KD) : sm__law_any [a0, a1] T k = b__law_any { nx := fun _ T => k .non T, rt := k, bk := fun _ _ => False, ct := fun _ _ => False } [some a0, some a1, none, none, none, none, none, none, none, none, none, none] T := rfl
abbrev st__law_built : Stmt := topS 100
theorem sc__law_built : FnScope ["_law_well_here", "_law_wide", "_law_way", "_law_row", "_law_few", "_law_inner_here", "_law_u", "_law_v", "_law_w", "_law_lead", "_law_chart_here"] ["_law_well_here"] (defScope st__law_built) := ⟨rfl, rfl, rfl, by decide +kernel, rfl, by decide +kernel, by decide +kernel⟩
def b__law_built : dS := sSeq (sPar 1 2 (aCons (dCall 2 sm__law_of (aTank 0 (aCons (dTup (aCons (dC (.int 1)) (aCons (dC (.int 1)) (aCons (dC (.int 2)) (aCons (dC (.int 3)) (aCons (dC (.int 9)) (aCons (dC (.int 40)) (aCons (dC (.int 1000)) (aNil))))))))) (aNil)))) (aCons (dCall 2 sm__law_dip (aTank 0 (aCons (dC (.int 9)) (aNil)))) (aNil)))) (sSeq (sIf (dTst (dOp (oF fEq) (dVar 2) (dC (.int 0)))) (sRet (dLst (aCons (dTup (aCons (dC (.int 0)) (aCons (dTup (aCons (dC (.int 1)) (aCons (dC (.int 0)) (aNil)))) (aCons (dTup (aCons (dC (.int 0)) (aCons (dC (.int 0)) (aNil)))) (aCons (dTup (aCons (dC (.int 0)) (aCons (dC (.int 0)) (aNil)))) (aCons (dTup (aCons (dC (.int 1)) (aCons (dC (.int 0)) (aNil)))) (aNil))))))) (aCons (dTup (aCons (dC (.str "all")) (aNil))) (aNil))))) ((fun k ρ T => k.nx ρ T))) (sSeq (sIf (dTst (dOp (oF fEq) (dVar 2) (dC (.int 1)))) (sSeq (sAsg (dCall 2 sm__law_round (aTank 0 (aCons (dVar 1) (aNil)))) (gN 3)) (sRet (dLst (aCons (dCall 1 sm__law_mirror (aCons (dVar 3) (aNil))) (aCons (dTup (aCons (dC (.str "round")) (aCons (dVar 3) (aNil)))) (aNil)))))) ((fun k ρ T => k.nx ρ T))) (sSeq (sIf (dTst (dOp (oF fGt) (dVar 2) (dC (.int 6)))) (sRet (dCall 2 sm__law_any (aTank 0 (aCons (dVar 1) (aNil))))) ((fun k ρ T => k.nx ρ T))) (sSeq (sAsg (dCall 2 sm__law_nonzero (aTank 0 (aCons (dVar 1) (aNil)))) (gN 4)) (sSeq (sAsg (dTup (aCons (dCall 4 sm__law_inner (aTank 0 (aCons (dVar 2) (aCons (dVar 4) (aCons (dVar 1) (aNil)))))) (aCons (dCall 3 sm__law_unlike (aTank 0 (aCons (dC (.int 3)) (aCons (dVar 1) (aNil))))) (aNil)))) (gTL 2 (gsCons (gN 5) (gsCons (gTL 3 (gsCons (gN 6) (gsCons (gN 7) (gsCons (gN 8) (gsNil))))) (gsNil))))) (sSeq (sAsg (dCall 3 sm__law_three (aCons (dVar 6) (aCons (dVar 7) (aCons (dVar 8) (aNil))))) (gN 9)) (sSeq (sAsg (dCall 2 sm__law_after (aCons (dCall 1 sm__law_back (aCons (dVar 9) (aNil))) (aCons (dCall 2 sm__law_joined (aCons (dVar 5) (aCons (dVar 9) (aNil)))) (aNil)))) (gN 10)) (sSeq (sIf (dTst (dOp (oF fInS) (dVar 2) (dTup (aCons (dC (.int 2)) (aCons (dC (.int 4)) (aNil)))))) (sRet (dLst (aCons (dVar 10) (aCons (dTup (aCons (dC (.str "places")) (aCons (dC (.int 2)) (aCons (dBlt (oG fTuple) (aCons (dBlt (oG fSortT) (aCons (dLst (aCons (dVar 6) (aCons (dVar 7) (aNil)))) (aNil))) (aNil))) (aNil))))) (aNil))))) ((fun k ρ T => k.nx ρ T))) (sRet (dLst (aCons (dVar 10) (aCons (dIf (dTst (dOp (oF fNe) (dVar 2) (dC (.int 5)))) (dTup (aCons (dC (.str "places")) (aCons (dC (.int 1)) (aCons (dTup (aCons (dVar 7) (aNil))) (aNil))))) (dTup (aCons (dC (.str "places")) (aCons (dC (.int 0)) (aCons (dTup (aNil)) (aNil)))))) (aNil)))))))))))))
def sm__law_built : Sem := semOf ["_law_well_here", "_law_wide", "_law_way", "_law_row", "_law_few", "_law_inner_here", "_law_u", "_law_v", "_law_w", "_law_lead", "_law_chart_here"] b__law_built
theorem e__law_built (a0 : SV) (T : Tk) (k : KD) : sm__law_built [a0] T k = b__law_built { nx := fun _ T => k .non T, rt := k, bk := fun _ _ => False, ct := fun _ _ => False } [some a0, none, none, none, none, none, none, none, none, none, none] T := rfl
abbrev st__law_right : Stmt := topS 101
theorem sc__law_right : FnScope ["_law_well_here", "_law_kept", "_law_due", "_law_lead", "_law_circle", "_law_stay", "_law_chart_here", "_law_told", "_law_rim", "_law_same", "_law_asked"] ["_law_well_here"] (defScope st__law_right) := ⟨rfl, rfl, rfl, by decide +kernel, rfl, by decide +kernel, by decide +kernel⟩
def b__law_right : dS := sSeq (sAsg (dCall 1 sm__law_built (aTank 0 (aNil))) (gTL 2 (gsCons (gN 1) (gsCons (gN 2) (gsNil))))) (sSeq (sPar3 3 4 5 (aCons (dCall 2 sm__law_map (aTank 0 (aCons (dC (.int 9)) (aNil)))) (aCons (dCall 2 sm__law_round (aTank 0 (aCons (dC (.int 9)) (aNil)))) (aCons (dTup (aCons (dC (.int 0)) (aCons (dTup (aCons (dC (.int 1)) (aCons (dC (.int 0)) (aNil)))) (aCons (dTup (aCons (dC (.int 0)) (aCons (dC (.int 0)) (aNil)))) (aCons (dTup (aCons (dC (.int 0)) (aCons (dC (.int 0)) (aNil)))) (aCons (dTup (aCons (dC (.int 1)) (aCons (dC (.int 0)) (aNil)))) (aNil))))))) (aNil))))) (sSeq (sAsg (dCall 2 sm__law_after (aCons (dVar 3) (aCons (dVar 1) (aNil)))) (gN 6)) (sSeq (sAsg (dLst (aCons (dCall 2 sm_agreement (aCons (dVar 6) (aCons (dVar 3) (aNil)))) (aCons (dCall 2 sm_agreement (aCons (dVar 3) (aCons (dVar 6) (aNil)))) (aCons (dCallP 2 [1, 0] sm_agreement (aCons (dVar 3) (aCons (dVar 6) (aNil)))) (aCons (dCall 2 sm_agreement (aCons (dVar 1) (aCons (dVar 5) (aNil)))) (aNil)))))) (gN 7)) (sSeq (sIf (dTst (dOp (oF fNe) (dBlt (oG fRepr) (aCons (dVar 7) (aNil))) (dBlt (oG fRepr) (aCons (dLst (aCons (dVar 2) (aCons (dVar 2) (aCons (dVar 2) (aCons (dVar 2) (aNil)))))) (aNil))))) (sRet (dC (.bl false))) ((fun k ρ T => k.nx ρ T))) (sSeq (sAsg (dIf (dTst (dOp (oF fEq) (dOp (oF fIx) (dVar 2) (dC (.int 0))) (dC (.str "round")))) (dOp (oF fIx) (dVar 2) (dC (.int 1))) (dC .non)) (gN 8)) (sSeq (sAsg (dOrV (dOp (oF fEq) (dOp (oF fIx) (dVar 2) (dC (.int 0))) (dC (.str "all"))) (dOp (oF fEq) (dVar 8) (dVar 4))) (gN 9)) (sSeq (sAsg (dLst (aCons (dCall 3 sm_agree_on (aCons (dVar 6) (aCons (dVar 3) (aCons (dVar 4) (aNil))))) (aCons (dCallP 3 [0, 2, 1] sm_agree_on (aApp 1 2 (aCons (dVar 3) (aNil)) (aCons (dVar 4) (aCons (dVar 6) (aNil))))) (aCons (dCall 1 sm_mirror_round (aCons (dVar 1) (aNil))) (aNil))))) (gN 10)) (sSeq (sIf (dTst (dOp (oF fNe) (dBlt (oG fRepr) (aCons (dVar 10) (aNil))) (dBlt (oG fRepr) (aCons (dLst (aCons (dVar 9) (aCons (dVar 9) (aCons (dVar 8) (aNil))))) (aNil))))) (sRet (dC (.bl false))) ((fun k ρ T => k.nx ρ T))) (sRet (dOrV (dIsN (dVar 8)) (dOp (oF fEq) (dBlt (oG fRepr) (aCons (dLst (aCons (dCall 3 sm_agree_on (aCons (dVar 6) (aCons (dVar 3) (aCons (dVar 8) (aNil))))) (aCons (dCall 1 sm_mirror_round (aCons (dVar 1) (aNil))) (aNil)))) (aNil))) (dBlt (oG fRepr) (aCons (dLst (aCons (dC (.bl true)) (aCons (dVar 8) (aNil)))) (aNil))))))))))))))
def sm__law_right : Sem := semOf ["_law_well_here", "_law_kept", "_law_due", "_law_lead", "_law_circle", "_law_stay", "_law_chart_here", "_law_told", "_law_rim", "_law_same", "_law_asked"] b__law_right
theorem e__law_right (a0 : SV) (T : Tk) (k : KD) : sm__law_right [a0] T k = b__law_right { nx := fun _ T => k .non T, rt := k, bk := fun _ _ => False, ct := fun _ _ => False } [some a0, none, none, none, none, none, none, none, none, none, none] T := rfl
abbrev st_law : Stmt := topS 102
theorem sc_law : FnScope ["_law_script", "_law_spot_here"] ["_law_script"] (defScope st_law) := ⟨rfl, rfl, rfl, by decide +kernel, rfl, by decide +kernel, by decide +kernel⟩
def b_law : dS := sSeq (sForI (iR1 (aCons (dCall 1 sm__law_rounds (aCons (dVar 0) (aNil))) (aNil))) (gN 1) (sIf (dNot (dTst (dCallT 2 sm__law_right sm__law_well (aCons (dVar 0) (aCons (dVar 1) (aNil)))))) (sRet (dC (.bl false))) ((fun k ρ T => k.nx ρ T)))) (sRet (dC (.bl true)))
def sm_law : Sem := semOf ["_law_script", "_law_spot_here"] b_law
theorem e_law (a0 : SV) (T : Tk) (k : KD) : sm_law [a0] T k = b_law { nx := fun _ T => k .non T, rt := k, bk := fun _ _ => False, ct := fun _ _ => False } [some a0, none] T := rfl
def hdD0 : List (Str × Stmt) := [("is_whole", st_is_whole), ("are_wholes", st_are_wholes), ("divisor_of", st_divisor_of), ("lowest", st_lowest), ("is_lowest", st_is_lowest), ("is_led_up", st_is_led_up), ("first_above", st_first_above), ("is_complex", st_is_complex), ("plus", st_plus), ("minus", st_minus), ("times", st_times), ("scaled", st_scaled), ("turned_over", st_turned_over), ("square_size", st_square_size), ("unit_for", st_unit_for), ("nearest", st_nearest), ("divisor_of_two", st_divisor_of_two), ("divisor_of_all", st_divisor_of_all), ("divided", st_divided), ("root", st_root), ("quotient_place", st_quotient_place), ("bend", st_bend), ("is_row", st_is_row), ("is_round", st_is_round), ("check_round", st_check_round)]
def hdD1 : List (Str × Stmt) := [("determinant", st_determinant), ("form_of", st_form_of), ("is_flag", st_is_flag), ("is_map", st_is_map), ("check_map", st_check_map), ("led_by", st_led_by), ("joined", st_joined), ("way_back", st_way_back), ("mirror_of", st_mirror_of), ("trace", st_trace), ("trace_place", st_trace_place), ("plain_kind", st_plain_kind), ("kind", st_kind), ("kind_of", st_kind_of), ("staying", st_staying), ("plain_kept", st_plain_kept), ("staying_places", st_staying_places), ("step_between", st_step_between), ("rows_kept", st_rows_kept), ("row_of_mirror", st_row_of_mirror), ("agreement", st_agreement), ("agree_on", st_agree_on), ("mirror_round", st_mirror_round), ("_law_well", st__law_well), ("_law_dip", st__law_dip)]
def hdD2 : List (Str × Stmt) := [("_law_of", st__law_of), ("_law_whole", st__law_whole), ("_law_rounds", st__law_rounds), ("_law_gcd", st__law_gcd), ("_law_cut", st__law_cut), ("_law_form", st__law_form), ("_law_root", st__law_root), ("_law_times", st__law_times), ("_law_plus", st__law_plus), ("_law_minus", st__law_minus), ("_law_conj", st__law_conj), ("_law_norm", st__law_norm), ("_law_scaled", st__law_scaled), ("_law_over", st__law_over), ("_law_deep", st__law_deep), ("_law_quarter", st__law_quarter), ("_law_chart", st__law_chart), ("_law_spot", st__law_spot), ("_law_joined", st__law_joined), ("_law_after", st__law_after), ("_law_back", st__law_back), ("_law_mirror", st__law_mirror), ("_law_place", st__law_place), ("_law_unlike", st__law_unlike), ("_law_round", st__law_round)]
def hdD3 : List (Str × Stmt) := [("_law_nonzero", st__law_nonzero), ("_law_four", st__law_four), ("_law_map", st__law_map), ("_law_three", st__law_three), ("_law_complex_root", st__law_complex_root), ("_law_inner", st__law_inner), ("_law_any", st__law_any), ("_law_built", st__law_built), ("_law_right", st__law_right), ("law", st_law)]
def hdDefs : List (Str × Stmt) := hdD0 ++ hdD1 ++ hdD2 ++ hdD3
def hdFree : List Str := ["abs", "all", "bool", "divmod", "int", "isinstance", "len", "list", "max", "min", "range", "repr", "set", "sorted", "tuple"]
def hdBlt : List (Str × String) := [("gcd", "math.gcd"), ("isqrt", "math.isqrt")]
def hdCons : List (Str × D) := [("UNITS", k_UNITS), ("ZERO", k_ZERO), ("FAR", k_FAR), ("STAYS", k_STAYS)]
def hdCls : List Str := []
def hdPrs : List (Str × Str) := []
def hdIni : List (Str × Str × Str × Stmt) := []
def hdExs : List Str := []
def hdKis : List (Str × Str × Bool) := []
def hdKib : List (Str × String × Bool) := []
def hd : Hd := ⟨hdDefs, hdFree, hdBlt, hdCons, hdCls, hdPrs, hdIni, hdExs, hdKis, hdKib, false⟩
def hdN0 : List Str := ["ArmError", "InvalidRound", "InvalidMap", "is_whole", "are_wholes", "divisor_of", "lowest", "is_lowest", "is_led_up", "first_above", "ZERO", "ONE", "UNITS", "is_complex", "plus", "minus", "times", "scaled", "turned_over", "square_size", "unit_for", "nearest", "divisor_of_two", "divisor_of_all", "divided", "root", "FAR", "quotient_place", "bend", "is_row"]
def hdN1 : List Str := ["is_round", "check_round", "STAYS", "determinant", "form_of", "is_flag", "is_map", "check_map", "led_by", "joined", "way_back", "mirror_of", "trace", "trace_place", "plain_kind", "kind", "kind_of", "staying", "plain_kept", "staying_places", "step_between", "rows_kept", "row_of_mirror", "agreement", "agree_on", "mirror_round", "_law_well", "_law_dip", "_law_of", "_law_whole"]
def hdN2 : List Str := ["_law_rounds", "_law_gcd", "_law_cut", "_law_form", "_law_root", "_law_times", "_law_plus", "_law_minus", "_law_conj", "_law_norm", "_law_scaled", "_law_over", "_law_deep", "_law_quarter", "_law_chart", "_law_spot", "_law_joined", "_law_after", "_law_back", "_law_mirror", "_law_place", "_law_unlike", "_law_round", "_law_nonzero", "_law_four", "_law_map", "_law_three", "_law_complex_root", "_law_inner", "_law_any"]
def hdN3 : List Str := ["_law_built", "_law_right"]
def hdNames : List Str := hdN0 ++ hdN1 ++ hdN2 ++ hdN3
abbrev hdR : PySem.W.OpenRow := PySem.W.OpenLaw.row PySem.Challenge.rw_drawarms_k51_whole_agreement_of_maps
abbrev hdV : Program := PySem.W.view hdR.prog [0, 102]
abbrev hdK : PySem.W.Hook := hd.hook
def hdO (s : PySem.W.SharedT) : HdA := hd.obsG (HandSHeadRun.getT s)
theorem hdO_eq (s : PySem.W.SharedT) : hdO s = hdK.obs s.abs := Hd.obs_eq (HandSHeadRun.getT_eq s)
theorem hd_run (w : World) : HandSHeadRun.RunEqI hdR hdV hdK hdO 20000 hdNames w := by
  unfold HandSHeadRun.RunEqI
  kernel_rfl
structure Tx (K : PySem.W.Frag) (mg : Str → Option Value) : Prop where
  d_is_whole : Df K mg "is_whole" st_is_whole
  d_are_wholes : Df K mg "are_wholes" st_are_wholes
  d_divisor_of : Df K mg "divisor_of" st_divisor_of
  d_lowest : Df K mg "lowest" st_lowest
  d_is_lowest : Df K mg "is_lowest" st_is_lowest
  d_is_led_up : Df K mg "is_led_up" st_is_led_up
  d_first_above : Df K mg "first_above" st_first_above
  d_is_complex : Df K mg "is_complex" st_is_complex
  d_plus : Df K mg "plus" st_plus
  d_minus : Df K mg "minus" st_minus
  d_times : Df K mg "times" st_times
  d_scaled : Df K mg "scaled" st_scaled
  d_turned_over : Df K mg "turned_over" st_turned_over
  d_square_size : Df K mg "square_size" st_square_size
  d_unit_for : Df K mg "unit_for" st_unit_for
  d_nearest : Df K mg "nearest" st_nearest
  d_divisor_of_two : Df K mg "divisor_of_two" st_divisor_of_two
  d_divisor_of_all : Df K mg "divisor_of_all" st_divisor_of_all
  d_divided : Df K mg "divided" st_divided
  d_root : Df K mg "root" st_root
  d_quotient_place : Df K mg "quotient_place" st_quotient_place
  d_bend : Df K mg "bend" st_bend
  d_is_row : Df K mg "is_row" st_is_row
  d_is_round : Df K mg "is_round" st_is_round
  d_check_round : Df K mg "check_round" st_check_round
  d_determinant : Df K mg "determinant" st_determinant
  d_form_of : Df K mg "form_of" st_form_of
  d_is_flag : Df K mg "is_flag" st_is_flag
  d_is_map : Df K mg "is_map" st_is_map
  d_check_map : Df K mg "check_map" st_check_map
  d_led_by : Df K mg "led_by" st_led_by
  d_joined : Df K mg "joined" st_joined
  d_way_back : Df K mg "way_back" st_way_back
  d_mirror_of : Df K mg "mirror_of" st_mirror_of
  d_trace : Df K mg "trace" st_trace
  d_trace_place : Df K mg "trace_place" st_trace_place
  d_plain_kind : Df K mg "plain_kind" st_plain_kind
  d_kind : Df K mg "kind" st_kind
  d_kind_of : Df K mg "kind_of" st_kind_of
  d_staying : Df K mg "staying" st_staying
  d_plain_kept : Df K mg "plain_kept" st_plain_kept
  d_staying_places : Df K mg "staying_places" st_staying_places
  d_step_between : Df K mg "step_between" st_step_between
  d_rows_kept : Df K mg "rows_kept" st_rows_kept
  d_row_of_mirror : Df K mg "row_of_mirror" st_row_of_mirror
  d_agreement : Df K mg "agreement" st_agreement
  d_agree_on : Df K mg "agree_on" st_agree_on
  d_mirror_round : Df K mg "mirror_round" st_mirror_round
  d__law_well : Df K mg "_law_well" st__law_well
  d__law_dip : Df K mg "_law_dip" st__law_dip
  d__law_of : Df K mg "_law_of" st__law_of
  d__law_whole : Df K mg "_law_whole" st__law_whole
  d__law_rounds : Df K mg "_law_rounds" st__law_rounds
  d__law_gcd : Df K mg "_law_gcd" st__law_gcd
  d__law_cut : Df K mg "_law_cut" st__law_cut
  d__law_form : Df K mg "_law_form" st__law_form
  d__law_root : Df K mg "_law_root" st__law_root
  d__law_times : Df K mg "_law_times" st__law_times
  d__law_plus : Df K mg "_law_plus" st__law_plus
  d__law_minus : Df K mg "_law_minus" st__law_minus
  d__law_conj : Df K mg "_law_conj" st__law_conj
  d__law_norm : Df K mg "_law_norm" st__law_norm
  d__law_scaled : Df K mg "_law_scaled" st__law_scaled
  d__law_over : Df K mg "_law_over" st__law_over
  d__law_deep : Df K mg "_law_deep" st__law_deep
  d__law_quarter : Df K mg "_law_quarter" st__law_quarter
  d__law_chart : Df K mg "_law_chart" st__law_chart
  d__law_spot : Df K mg "_law_spot" st__law_spot
  d__law_joined : Df K mg "_law_joined" st__law_joined
  d__law_after : Df K mg "_law_after" st__law_after
  d__law_back : Df K mg "_law_back" st__law_back
  d__law_mirror : Df K mg "_law_mirror" st__law_mirror
  d__law_place : Df K mg "_law_place" st__law_place
  d__law_unlike : Df K mg "_law_unlike" st__law_unlike
  d__law_round : Df K mg "_law_round" st__law_round
  d__law_nonzero : Df K mg "_law_nonzero" st__law_nonzero
  d__law_four : Df K mg "_law_four" st__law_four
  d__law_map : Df K mg "_law_map" st__law_map
  d__law_three : Df K mg "_law_three" st__law_three
  d__law_complex_root : Df K mg "_law_complex_root" st__law_complex_root
  d__law_inner : Df K mg "_law_inner" st__law_inner
  d__law_any : Df K mg "_law_any" st__law_any
  d__law_built : Df K mg "_law_built" st__law_built
  d__law_right : Df K mg "_law_right" st__law_right
  d_law : Df K mg "law" st_law
  z_abs : mg "abs" = none
  z_all : mg "all" = none
  z_bool : mg "bool" = none
  z_divmod : mg "divmod" = none
  z_int : mg "int" = none
  z_isinstance : mg "isinstance" = none
  z_len : mg "len" = none
  z_list : mg "list" = none
  z_max : mg "max" = none
  z_min : mg "min" = none
  z_range : mg "range" = none
  z_repr : mg "repr" = none
  z_set : mg "set" = none
  z_sorted : mg "sorted" = none
  z_tuple : mg "tuple" = none
  b_gcd : mg "gcd" = some (.builtin "math.gcd")
  b_isqrt : mg "isqrt" = some (.builtin "math.isqrt")
  c_UNITS : GC K mg "UNITS" k_UNITS
  c_ZERO : GC K mg "ZERO" k_ZERO
  c_FAR : GC K mg "FAR" k_FAR
  c_STAYS : GC K mg "STAYS" k_STAYS
section
variable {P : Program} {w : World} {K : PySem.W.Frag} {mg : Str → Option Value} {base : Heap}
theorem ok_is_whole (T : Tx K mg) : Ok P w K mg base 1 "is_whole" ["value"] sm_is_whole := by
  refine ok_def (N := ["value"]) T.d_is_whole sc_is_whole (fun _ _ _ _ _ _ us hl => match us, hl with | [_], _ => rfl) (fun _ _ _ _ _ _ us hl => match us, hl with | [_], _ => rfl) fun f cdv A fs s H E hr hgd => ?_
  have nd := sc_is_whole.nd
  exact ss_one (s_ret (d_andV (d_isi .int (d_var 0) T.z_isinstance T.z_int) (d_v1 (d_notV (d_isi .bool (d_var 0) T.z_isinstance T.z_bool)))))
theorem ok_are_wholes (T : Tx K mg) : Ok P w K mg base 2 "are_wholes" ["value", "many"] sm_are_wholes := by
  refine ok_def (N := ["value", "many", "number"]) T.d_are_wholes sc_are_wholes (fun _ _ _ _ _ _ us hl => match us, hl with | [_, _], _ => rfl) (fun _ _ _ _ _ _ us hl => match us, hl with | [_, _], _ => rfl) fun f cdv A fs s H E hr hgd => ?_
  have nd := sc_are_wholes.nd
  exact ss_one (s_ret (d_andV (d_isi .tuple (d_var 0) T.z_isinstance T.z_tuple) (d_andV (d_feq hr (g_len T.z_len (a_cons (d_var 0) (a_nil))) (d_var 1)) (d_v1 (g_all rfl T.z_all (a_cons (d_lc [("number", 2)] rfl nd (g_seq (d_var 0)) (cg_name) (fun _ _ _ _ _ => pg_name (i := 2) nd rfl (by first | exact Or.inl rfl | exact Or.inr rfl)) (fun _ _ _ _ _ => ts_nil) (fun _ _ _ _ _ => d_call (ok_is_whole T) (hr.mono (by decide)) hgd (a_cons (d_var 2) (a_nil))) (ok := blkOk_by (N := ["value", "many", "number"]) (sc := defScope st_are_wholes) (by decide +kernel))) (a_nil)))))))
theorem ok_divisor_of (T : Tx K mg) : Ok P w K mg base 1 "divisor_of" ["numbers"] sm_divisor_of := by
  refine ok_def (N := ["numbers", "found", "number"]) T.d_divisor_of sc_divisor_of (fun _ _ _ _ _ _ us hl => match us, hl with | [_], _ => rfl) (fun _ _ _ _ _ _ us hl => match us, hl with | [_], _ => rfl) fun f cdv A fs s H E hr hgd => ?_
  have nd := sc_divisor_of.nd
  exact ss_cons (s_set 1 nd (d_int)) (ss_cons (s_forI PassesOwn.never rfl (g_seq (d_var 0)) (g_name 2 nd) (ss_one (s_set 1 nd (g_gcd T.b_gcd (a_cons (d_var 1) (a_cons (d_var 2) (a_nil))))))) (ss_one (s_ret (d_var 1))))
theorem ok_lowest (T : Tx K mg) : Ok P w K mg base 2 "lowest" ["numbers"] sm_lowest := by
  refine ok_def (N := ["numbers", "divisor", "number"]) T.d_lowest sc_lowest (fun _ _ _ _ _ _ us hl => match us, hl with | [_], _ => rfl) (fun _ _ _ _ _ _ us hl => match us, hl with | [_], _ => rfl) fun f cdv A fs s H E hr hgd => ?_
  have nd := sc_lowest.nd
  exact ss_cons (s_set 1 nd (d_call (ok_divisor_of T) (hr.mono (by decide)) hgd (a_cons (d_var 0) (a_nil)))) (ss_one (s_ret (g_totup T.z_tuple (a_cons (d_lc [("number", 2)] rfl nd (g_seq (d_var 0)) (cg_name) (fun _ _ _ _ _ => pg_name (i := 2) nd rfl (by first | exact Or.inl rfl | exact Or.inr rfl)) (fun _ _ _ _ _ => ts_nil) (fun _ _ _ _ _ => f_div (d_var 2) (d_var 1)) (ok := blkOk_by (N := ["numbers", "divisor", "number"]) (sc := defScope st_lowest) (by decide +kernel))) (a_nil)))))
theorem ok_is_lowest (T : Tx K mg) : Ok P w K mg base 2 "is_lowest" ["numbers"] sm_is_lowest := by
  refine ok_def (N := ["numbers"]) T.d_is_lowest sc_is_lowest (fun _ _ _ _ _ _ us hl => match us, hl with | [_], _ => rfl) (fun _ _ _ _ _ _ us hl => match us, hl with | [_], _ => rfl) fun f cdv A fs s H E hr hgd => ?_
  have nd := sc_is_lowest.nd
  exact ss_one (s_ret (d_feq hr (d_call (ok_divisor_of T) (hr.mono (by decide)) hgd (a_cons (d_var 0) (a_nil))) (d_int)))
theorem ok_is_led_up (T : Tx K mg) : Ok P w K mg base 1 "is_led_up" ["numbers"] sm_is_led_up := by
  refine ok_def (N := ["numbers", "number"]) T.d_is_led_up sc_is_led_up (fun _ _ _ _ _ _ us hl => match us, hl with | [_], _ => rfl) (fun _ _ _ _ _ _ us hl => match us, hl with | [_], _ => rfl) fun f cdv A fs s H E hr hgd => ?_
  have nd := sc_is_led_up.nd
  exact ss_cons (s_forI PassesOwn.never rfl (g_seq (d_var 0)) (g_name 1 nd) (ss_one (s_if (t_fne hr (d_var 1) (d_int)) (ss_one (s_ret (d_fgt (d_var 1) (d_int)))) (ss_nil)))) (ss_one (s_ret (d_bl)))
theorem ok_first_above (T : Tx K mg) : Ok P w K mg base 3 "first_above" ["numbers"] sm_first_above := by
  refine ok_def (N := ["numbers", "found", "number"]) T.d_first_above sc_first_above (fun _ _ _ _ _ _ us hl => match us, hl with | [_], _ => rfl) (fun _ _ _ _ _ _ us hl => match us, hl with | [_], _ => rfl) fun f cdv A fs s H E hr hgd => ?_
  have nd := sc_first_above.nd
  exact ss_cons (s_set 1 nd (d_call (ok_lowest T) (hr.mono (by decide)) hgd (a_cons (d_var 0) (a_nil)))) (ss_one (s_ret (d_if (d_tst (d_call (ok_is_led_up T) (hr.mono (by decide)) hgd (a_cons (d_var 1) (a_nil)))) (d_var 1) (g_totup T.z_tuple (a_cons (d_lc [("number", 2)] rfl nd (g_seq (d_var 1)) (cg_name) (fun _ _ _ _ _ => pg_name (i := 2) nd rfl (by first | exact Or.inl rfl | exact Or.inr rfl)) (fun _ _ _ _ _ => ts_nil) (fun _ _ _ _ _ => d_neg (d_var 2)) (ok := blkOk_by (N := ["numbers", "found", "number"]) (sc := defScope st_first_above) (by decide +kernel))) (a_nil))))))
theorem ok_is_complex (T : Tx K mg) : Ok P w K mg base 3 "is_complex" ["value"] sm_is_complex := by
  refine ok_def (N := ["value"]) T.d_is_complex sc_is_complex (fun _ _ _ _ _ _ us hl => match us, hl with | [_], _ => rfl) (fun _ _ _ _ _ _ us hl => match us, hl with | [_], _ => rfl) fun f cdv A fs s H E hr hgd => ?_
  have nd := sc_is_complex.nd
  exact ss_one (s_ret (d_call (ok_are_wholes T) (hr.mono (by decide)) hgd (a_cons (d_var 0) (a_cons (d_int) (a_nil)))))
theorem ok_plus (T : Tx K mg) : Ok P w K mg base 1 "plus" ["number", "other"] sm_plus := by
  refine ok_def (N := ["number", "other"]) T.d_plus sc_plus (fun _ _ _ _ _ _ us hl => match us, hl with | [_, _], _ => rfl) (fun _ _ _ _ _ _ us hl => match us, hl with | [_, _], _ => rfl) fun f cdv A fs s H E hr hgd => ?_
  have nd := sc_plus.nd
  exact ss_one (s_ret (d_tup (a_cons (f_add (f_ix (d_var 0) (d_int)) (f_ix (d_var 1) (d_int))) (a_cons (f_add (f_ix (d_var 0) (d_int)) (f_ix (d_var 1) (d_int))) (a_nil)))))
theorem ok_minus (T : Tx K mg) : Ok P w K mg base 1 "minus" ["number", "other"] sm_minus := by
  refine ok_def (N := ["number", "other"]) T.d_minus sc_minus (fun _ _ _ _ _ _ us hl => match us, hl with | [_, _], _ => rfl) (fun _ _ _ _ _ _ us hl => match us, hl with | [_, _], _ => rfl) fun f cdv A fs s H E hr hgd => ?_
  have nd := sc_minus.nd
  exact ss_one (s_ret (d_tup (a_cons (f_sub (f_ix (d_var 0) (d_int)) (f_ix (d_var 1) (d_int))) (a_cons (f_sub (f_ix (d_var 0) (d_int)) (f_ix (d_var 1) (d_int))) (a_nil)))))
theorem ok_times (T : Tx K mg) : Ok P w K mg base 1 "times" ["number", "other"] sm_times := by
  refine ok_def (N := ["number", "other"]) T.d_times sc_times (fun _ _ _ _ _ _ us hl => match us, hl with | [_, _], _ => rfl) (fun _ _ _ _ _ _ us hl => match us, hl with | [_, _], _ => rfl) fun f cdv A fs s H E hr hgd => ?_
  have nd := sc_times.nd
  exact ss_one (s_ret (d_tup (a_cons (f_sub (f_mul (f_ix (d_var 0) (d_int)) (f_ix (d_var 1) (d_int))) (f_mul (f_ix (d_var 0) (d_int)) (f_ix (d_var 1) (d_int)))) (a_cons (f_add (f_mul (f_ix (d_var 0) (d_int)) (f_ix (d_var 1) (d_int))) (f_mul (f_ix (d_var 0) (d_int)) (f_ix (d_var 1) (d_int)))) (a_nil)))))
theorem ok_scaled (T : Tx K mg) : Ok P w K mg base 1 "scaled" ["number", "factor"] sm_scaled := by
  refine ok_def (N := ["number", "factor"]) T.d_scaled sc_scaled (fun _ _ _ _ _ _ us hl => match us, hl with | [_, _], _ => rfl) (fun _ _ _ _ _ _ us hl => match us, hl with | [_, _], _ => rfl) fun f cdv A fs s H E hr hgd => ?_
  have nd := sc_scaled.nd
  exact ss_one (s_ret (d_tup (a_cons (f_mul (d_var 1) (f_ix (d_var 0) (d_int))) (a_cons (f_mul (d_var 1) (f_ix (d_var 0) (d_int))) (a_nil)))))
theorem ok_turned_over (T : Tx K mg) : Ok P w K mg base 1 "turned_over" ["number"] sm_turned_over := by
  refine ok_def (N := ["number"]) T.d_turned_over sc_turned_over (fun _ _ _ _ _ _ us hl => match us, hl with | [_], _ => rfl) (fun _ _ _ _ _ _ us hl => match us, hl with | [_], _ => rfl) fun f cdv A fs s H E hr hgd => ?_
  have nd := sc_turned_over.nd
  exact ss_one (s_ret (d_tup (a_cons (f_ix (d_var 0) (d_int)) (a_cons (d_neg (f_ix (d_var 0) (d_int))) (a_nil)))))
theorem ok_square_size (T : Tx K mg) : Ok P w K mg base 1 "square_size" ["number"] sm_square_size := by
  refine ok_def (N := ["number"]) T.d_square_size sc_square_size (fun _ _ _ _ _ _ us hl => match us, hl with | [_], _ => rfl) (fun _ _ _ _ _ _ us hl => match us, hl with | [_], _ => rfl) fun f cdv A fs s H E hr hgd => ?_
  have nd := sc_square_size.nd
  exact ss_one (s_ret (f_add (f_mul (f_ix (d_var 0) (d_int)) (f_ix (d_var 0) (d_int))) (f_mul (f_ix (d_var 0) (d_int)) (f_ix (d_var 0) (d_int)))))
theorem ok_unit_for (T : Tx K mg) : Ok P w K mg base 2 "unit_for" ["number"] sm_unit_for := by
  refine ok_def (N := ["number", "unit", "found"]) T.d_unit_for sc_unit_for (fun _ _ _ _ _ _ us hl => match us, hl with | [_], _ => rfl) (fun _ _ _ _ _ _ us hl => match us, hl with | [_], _ => rfl) fun f cdv A fs s H E hr hgd => ?_
  have nd := sc_unit_for.nd
  exact ss_cons (s_forI PassesOwn.never rfl (g_seq (g_slice (d_gc T.c_UNITS) p_none (p_some (d_int)))) (g_name 1 nd) (ss_cons (s_set 2 nd (d_call (ok_times T) (hr.mono (by decide)) hgd (a_cons (d_var 0) (a_cons (d_var 1) (a_nil))))) (ss_one (s_if ((d_wand (t_fgt (f_ix (d_var 2) (d_int)) (d_int)) (d_w1a (t_fge (f_ix (d_var 2) (d_int)) (d_int)))).pt) (ss_one (s_ret (d_var 1))) (ss_nil))))) (ss_one (s_ret (f_ix (d_gc T.c_UNITS) (d_int))))
theorem ok_nearest (T : Tx K mg) : Ok P w K mg base 1 "nearest" ["number", "below"] sm_nearest := by
  refine ok_def (N := ["number", "below"]) T.d_nearest sc_nearest (fun _ _ _ _ _ _ us hl => match us, hl with | [_, _], _ => rfl) (fun _ _ _ _ _ _ us hl => match us, hl with | [_, _], _ => rfl) fun f cdv A fs s H E hr hgd => ?_
  have nd := sc_nearest.nd
  exact ss_one (s_ret (f_div (f_add (f_mul (d_int) (d_var 0)) (d_var 1)) (f_mul (d_int) (d_var 1))))
theorem ok_divisor_of_two (T : Tx K mg) : Ok P w K mg base 2 "divisor_of_two" ["number", "other"] sm_divisor_of_two := by
  refine ok_def (N := ["number", "other", "one", "two", "product", "whole"]) T.d_divisor_of_two sc_divisor_of_two (fun _ _ _ _ _ _ us hl => match us, hl with | [_, _], _ => rfl) (fun _ _ _ _ _ _ us hl => match us, hl with | [_, _], _ => rfl) fun f cdv A fs s H E hr hgd => ?_
  have nd := sc_divisor_of_two.nd
  exact ss_cons (s_par 2 3 rfl nd (a_cons (d_var 0) (a_cons (d_var 1) (a_nil)))) (ss_cons (s_while PassesOwn.never (t_fne hr (d_var 3) (d_gc T.c_ZERO)) (ss_cons (s_set 4 nd (d_call (ok_times T) (hr.mono (by decide)) hgd (a_cons (d_var 2) (a_cons (d_call (ok_turned_over T) (hr.mono (by decide)) hgd (a_cons (d_var 3) (a_nil))) (a_nil))))) (ss_cons (s_set 5 nd (d_tup (a_cons (d_call (ok_nearest T) (hr.mono (by decide)) hgd (a_cons (f_ix (d_var 4) (d_int)) (a_cons (d_call (ok_square_size T) (hr.mono (by decide)) hgd (a_cons (d_var 3) (a_nil))) (a_nil)))) (a_cons (d_call (ok_nearest T) (hr.mono (by decide)) hgd (a_cons (f_ix (d_var 4) (d_int)) (a_cons (d_call (ok_square_size T) (hr.mono (by decide)) hgd (a_cons (d_var 3) (a_nil))) (a_nil)))) (a_nil))))) (ss_one (s_par 2 3 rfl nd (a_cons (d_var 3) (a_cons (d_call (ok_minus T) (hr.mono (by decide)) hgd (a_cons (d_var 2) (a_cons (d_call (ok_times T) (hr.mono (by decide)) hgd (a_cons (d_var 5) (a_cons (d_var 3) (a_nil)))) (a_nil)))) (a_nil)))))))) (ss_one (s_ret (d_var 2))))
theorem ok_divisor_of_all (T : Tx K mg) : Ok P w K mg base 3 "divisor_of_all" ["numbers"] sm_divisor_of_all := by
  refine ok_def (N := ["numbers", "found", "number"]) T.d_divisor_of_all sc_divisor_of_all (fun _ _ _ _ _ _ us hl => match us, hl with | [_], _ => rfl) (fun _ _ _ _ _ _ us hl => match us, hl with | [_], _ => rfl) fun f cdv A fs s H E hr hgd => ?_
  have nd := sc_divisor_of_all.nd
  exact ss_cons (s_set 1 nd (d_gc T.c_ZERO)) (ss_cons (s_forI PassesOwn.never rfl (g_seq (d_var 0)) (g_name 2 nd) (ss_one (s_set 1 nd (d_call (ok_divisor_of_two T) (hr.mono (by decide)) hgd (a_cons (d_var 1) (a_cons (d_var 2) (a_nil))))))) (ss_one (s_ret (d_var 1))))
theorem ok_divided (T : Tx K mg) : Ok P w K mg base 2 "divided" ["number", "other"] sm_divided := by
  refine ok_def (N := ["number", "other", "product", "below"]) T.d_divided sc_divided (fun _ _ _ _ _ _ us hl => match us, hl with | [_, _], _ => rfl) (fun _ _ _ _ _ _ us hl => match us, hl with | [_, _], _ => rfl) fun f cdv A fs s H E hr hgd => ?_
  have nd := sc_divided.nd
  exact ss_cons (s_par 2 3 rfl nd (a_cons (d_call (ok_times T) (hr.mono (by decide)) hgd (a_cons (d_var 0) (a_cons (d_call (ok_turned_over T) (hr.mono (by decide)) hgd (a_cons (d_var 1) (a_nil))) (a_nil)))) (a_cons (d_call (ok_square_size T) (hr.mono (by decide)) hgd (a_cons (d_var 1) (a_nil))) (a_nil)))) (ss_cons (s_if ((d_wor (t_fne hr (f_mod (f_ix (d_var 2) (d_int)) (d_var 3)) (d_int)) (d_w1o (t_fne hr (f_mod (f_ix (d_var 2) (d_int)) (d_var 3)) (d_int)))).pt) (ss_one (s_ret (d_non))) (ss_nil)) (ss_one (s_ret (d_tup (a_cons (f_div (f_ix (d_var 2) (d_int)) (d_var 3)) (a_cons (f_div (f_ix (d_var 2) (d_int)) (d_var 3)) (a_nil)))))))
theorem ok_root (T : Tx K mg) : Ok P w K mg base 2 "root" ["number"] sm_root := by
  refine ok_def (N := ["number", "length", "first", "second", "found"]) T.d_root sc_root (fun _ _ _ _ _ _ us hl => match us, hl with | [_], _ => rfl) (fun _ _ _ _ _ _ us hl => match us, hl with | [_], _ => rfl) fun f cdv A fs s H E hr hgd => ?_
  have nd := sc_root.nd
  exact ss_cons (s_set 1 nd (g_isqrt T.b_isqrt (a_cons (d_call (ok_square_size T) (hr.mono (by decide)) hgd (a_cons (d_var 0) (a_nil))) (a_nil)))) (ss_cons (s_set 2 nd (g_isqrt T.b_isqrt (a_cons (g_max2 rfl T.z_max (a_cons (d_int) (a_cons (f_div (f_add (d_var 1) (f_ix (d_var 0) (d_int))) (d_int)) (a_nil)))) (a_nil)))) (ss_cons (s_set 3 nd (g_isqrt T.b_isqrt (a_cons (g_max2 rfl T.z_max (a_cons (d_int) (a_cons (f_div (f_sub (d_var 1) (f_ix (d_var 0) (d_int))) (d_int)) (a_nil)))) (a_nil)))) (ss_cons (s_set 4 nd (d_tup (a_cons (d_var 2) (a_cons (d_if (t_fge (f_ix (d_var 0) (d_int)) (d_int)) (d_var 3) (d_neg (d_var 3))) (a_nil))))) (ss_one (s_ret (d_if (t_feq hr (d_call (ok_times T) (hr.mono (by decide)) hgd (a_cons (d_var 4) (a_cons (d_var 4) (a_nil)))) (d_var 0)) (d_var 4) (d_non)))))))
theorem ok_quotient_place (T : Tx K mg) : Ok P w K mg base 3 "quotient_place" ["number", "other"] sm_quotient_place := by
  refine ok_def (N := ["number", "other", "product"]) T.d_quotient_place sc_quotient_place (fun _ _ _ _ _ _ us hl => match us, hl with | [_, _], _ => rfl) (fun _ _ _ _ _ _ us hl => match us, hl with | [_, _], _ => rfl) fun f cdv A fs s H E hr hgd => ?_
  have nd := sc_quotient_place.nd
  exact ss_cons (s_if (t_feq hr (d_var 1) (d_gc T.c_ZERO)) (ss_one (s_ret (d_gc T.c_FAR))) (ss_nil)) (ss_cons (s_set 2 nd (d_call (ok_times T) (hr.mono (by decide)) hgd (a_cons (d_var 0) (a_cons (d_call (ok_turned_over T) (hr.mono (by decide)) hgd (a_cons (d_var 1) (a_nil))) (a_nil))))) (ss_one (s_ret (d_call (ok_lowest T) (hr.mono (by decide)) hgd (a_cons (d_tup (a_cons (f_ix (d_var 2) (d_int)) (a_cons (f_ix (d_var 2) (d_int)) (a_cons (d_call (ok_square_size T) (hr.mono (by decide)) hgd (a_cons (d_var 1) (a_nil))) (a_nil))))) (a_nil))))))
theorem ok_bend (T : Tx K mg) : Ok P w K mg base 1 "bend" ["row"] sm_bend := by
  refine ok_def (N := ["row"]) T.d_bend sc_bend (fun _ _ _ _ _ _ us hl => match us, hl with | [_], _ => rfl) (fun _ _ _ _ _ _ us hl => match us, hl with | [_], _ => rfl) fun f cdv A fs s H E hr hgd => ?_
  have nd := sc_bend.nd
  exact ss_one (s_ret (f_sub (f_add (f_mul (f_ix (d_var 0) (d_int)) (f_ix (d_var 0) (d_int))) (f_mul (f_ix (d_var 0) (d_int)) (f_ix (d_var 0) (d_int)))) (f_mul (f_mul (d_int) (f_ix (d_var 0) (d_int))) (f_ix (d_var 0) (d_int)))))
theorem ok_is_row (T : Tx K mg) : Ok P w K mg base 3 "is_row" ["value"] sm_is_row := by
  refine ok_def (N := ["value"]) T.d_is_row sc_is_row (fun _ _ _ _ _ _ us hl => match us, hl with | [_], _ => rfl) (fun _ _ _ _ _ _ us hl => match us, hl with | [_], _ => rfl) fun f cdv A fs s H E hr hgd => ?_
  have nd := sc_is_row.nd
  exact ss_one (s_ret (d_andV (d_call (ok_are_wholes T) (hr.mono (by decide)) hgd (a_cons (d_var 0) (a_cons (d_int) (a_nil)))) (d_andV (d_call (ok_is_lowest T) (hr.mono (by decide)) hgd (a_cons (d_var 0) (a_nil))) (d_v1 (d_fgt (d_call (ok_bend T) (hr.mono (by decide)) hgd (a_cons (d_var 0) (a_nil))) (d_int))))))
theorem ok_is_round (T : Tx K mg) : Ok P w K mg base 4 "is_round" ["value"] sm_is_round := by
  refine ok_def (N := ["value"]) T.d_is_round sc_is_round (fun _ _ _ _ _ _ us hl => match us, hl with | [_], _ => rfl) (fun _ _ _ _ _ _ us hl => match us, hl with | [_], _ => rfl) fun f cdv A fs s H E hr hgd => ?_
  have nd := sc_is_round.nd
  exact ss_one (s_ret (d_andV (d_call (ok_is_row T) (hr.mono (by decide)) hgd (a_cons (d_var 0) (a_nil))) (d_v1 (d_call (ok_is_led_up T) (hr.mono (by decide)) hgd (a_cons (d_var 0) (a_nil))))))
theorem ok_check_round (T : Tx K mg) : Ok P w K mg base 5 "check_round" ["value"] sm_check_round := by
  refine ok_def (N := ["value"]) T.d_check_round sc_check_round (fun _ _ _ _ _ _ us hl => match us, hl with | [_], _ => rfl) (fun _ _ _ _ _ _ us hl => match us, hl with | [_], _ => rfl) fun f cdv A fs s H E hr hgd => ?_
  have nd := sc_check_round.nd
  exact ss_one (s_if (d_tnot (d_tst (d_call (ok_is_round T) (hr.mono (by decide)) hgd (a_cons (d_var 0) (a_nil))))) (ss_one (s_never)) (ss_nil))
theorem ok_determinant (T : Tx K mg) : Ok P w K mg base 2 "determinant" ["chart"] sm_determinant := by
  refine ok_def (N := ["chart"]) T.d_determinant sc_determinant (fun _ _ _ _ _ _ us hl => match us, hl with | [_], _ => rfl) (fun _ _ _ _ _ _ us hl => match us, hl with | [_], _ => rfl) fun f cdv A fs s H E hr hgd => ?_
  have nd := sc_determinant.nd
  exact ss_one (s_ret (d_call (ok_minus T) (hr.mono (by decide)) hgd (a_cons (d_call (ok_times T) (hr.mono (by decide)) hgd (a_cons (f_ix (d_var 0) (d_int)) (a_cons (f_ix (d_var 0) (d_int)) (a_nil)))) (a_cons (d_call (ok_times T) (hr.mono (by decide)) hgd (a_cons (f_ix (d_var 0) (d_int)) (a_cons (f_ix (d_var 0) (d_int)) (a_nil)))) (a_nil)))))
theorem ok_form_of (T : Tx K mg) : Ok P w K mg base 4 "form_of" ["is_mirrored", "numbers"] sm_form_of := by
  refine ok_def (N := ["is_mirrored", "numbers", "common", "found", "number", "unit"]) T.d_form_of sc_form_of (fun _ _ _ _ _ _ us hl => match us, hl with | [_, _], _ => rfl) (fun _ _ _ _ _ _ us hl => match us, hl with | [_, _], _ => rfl) fun f cdv A fs s H E hr hgd => ?_
  have nd := sc_form_of.nd
  exact ss_cons (s_set 2 nd (d_call (ok_divisor_of_all T) (hr.mono (by decide)) hgd (a_cons (d_var 1) (a_nil)))) (ss_cons (s_setLc 3 [("number", 4)] rfl nd (g_seq (d_var 1)) (cg_name) (fun _ _ _ _ _ => pg_name (i := 4) nd rfl (by first | exact Or.inl rfl | exact Or.inr rfl)) (fun _ _ _ _ _ => ts_nil) (fun _ _ _ _ _ => d_call (ok_divided T) (hr.mono (by decide)) hgd (a_cons (d_var 4) (a_cons (d_var 2) (a_nil)))) (ok := blkOk_by (N := ["is_mirrored", "numbers", "common", "found", "number", "unit"]) (sc := defScope st_form_of) (by decide +kernel)) (sw_true rfl rfl rfl (by decide +kernel))) (ss_cons (s_set 5 nd (d_call (ok_unit_for T) (hr.mono (by decide)) hgd (a_cons (f_ix (d_lc [("number", 4)] rfl nd (g_seq (d_var 3)) (cg_name) (fun _ _ _ _ _ => pg_name (i := 4) nd rfl (by first | exact Or.inl rfl | exact Or.inr rfl)) (fun _ _ _ _ _ => ts_one (t_fne hr (d_var 4) (d_gc T.c_ZERO))) (fun _ _ _ _ _ => d_var 4) (ok := blkOk_by (N := ["is_mirrored", "numbers", "common", "found", "number", "unit"]) (sc := defScope st_form_of) (by decide +kernel))) (d_int)) (a_nil)))) (ss_one (s_ret (d_tup (a_cons (d_var 0) (a_star (d_lc [("number", 4)] rfl nd (g_seq (d_var 3)) (cg_name) (fun _ _ _ _ _ => pg_name (i := 4) nd rfl (by first | exact Or.inl rfl | exact Or.inr rfl)) (fun _ _ _ _ _ => ts_nil) (fun _ _ _ _ _ => d_call (ok_times T) (hr.mono (by decide)) hgd (a_cons (d_var 4) (a_cons (d_var 5) (a_nil)))) (ok := blkOk_by (N := ["is_mirrored", "numbers", "common", "found", "number", "unit"]) (sc := defScope st_form_of) (by decide +kernel))) (a_nil))))))))
theorem ok_is_flag (T : Tx K mg) : Ok P w K mg base 2 "is_flag" ["value"] sm_is_flag := by
  refine ok_def (N := ["value"]) T.d_is_flag sc_is_flag (fun _ _ _ _ _ _ us hl => match us, hl with | [_], _ => rfl) (fun _ _ _ _ _ _ us hl => match us, hl with | [_], _ => rfl) fun f cdv A fs s H E hr hgd => ?_
  have nd := sc_is_flag.nd
  exact ss_one (s_ret (d_andV (d_call (ok_is_whole T) (hr.mono (by decide)) hgd (a_cons (d_var 0) (a_nil))) (d_v1 (d_finS hr (d_var 0) (d_tup (a_cons (d_int) (a_cons (d_int) (a_nil))))))))
theorem ok_is_map (T : Tx K mg) : Ok P w K mg base 5 "is_map" ["value"] sm_is_map := by
  refine ok_def (N := ["value", "number"]) T.d_is_map sc_is_map (fun _ _ _ _ _ _ us hl => match us, hl with | [_], _ => rfl) (fun _ _ _ _ _ _ us hl => match us, hl with | [_], _ => rfl) fun f cdv A fs s H E hr hgd => ?_
  have nd := sc_is_map.nd
  exact ss_cons (s_if ((d_wor (d_tnot (d_tst (d_isi .tuple (d_var 0) T.z_isinstance T.z_tuple))) (d_wor (t_fne hr (g_len T.z_len (a_cons (d_var 0) (a_nil))) (d_int)) (d_w1o (d_tnot (d_tst (d_call (ok_is_flag T) (hr.mono (by decide)) hgd (a_cons (f_ix (d_var 0) (d_int)) (a_nil)))))))).pt) (ss_one (s_ret (d_bl))) (ss_nil)) (ss_cons (s_if ((d_wor (t_fne hr (d_lc [("number", 1)] rfl nd (g_seq (g_slice (d_var 0) (p_some (d_int)) p_none)) (cg_name) (fun _ _ _ _ _ => pg_name (i := 1) nd rfl (by first | exact Or.inl rfl | exact Or.inr rfl)) (fun _ _ _ _ _ => ts_one (d_tnot (d_tst (d_call (ok_is_complex T) (hr.mono (by decide)) hgd (a_cons (d_var 1) (a_nil)))))) (fun _ _ _ _ _ => d_var 1) (ok := blkOk_by (N := ["value", "number"]) (sc := defScope st_is_map) (by decide +kernel))) (d_lst (a_nil))) (d_w1o (t_feq hr (d_call (ok_determinant T) (hr.mono (by decide)) hgd (a_cons (d_var 0) (a_nil))) (d_gc T.c_ZERO)))).pt) (ss_one (s_ret (d_bl))) (ss_nil)) (ss_one (s_ret (d_feq hr (d_call (ok_form_of T) (hr.mono (by decide)) hgd (a_cons (f_ix (d_var 0) (d_int)) (a_cons (g_slice (d_var 0) (p_some (d_int)) p_none) (a_nil)))) (d_var 0)))))
theorem ok_check_map (T : Tx K mg) : Ok P w K mg base 6 "check_map" ["value"] sm_check_map := by
  refine ok_def (N := ["value"]) T.d_check_map sc_check_map (fun _ _ _ _ _ _ us hl => match us, hl with | [_], _ => rfl) (fun _ _ _ _ _ _ us hl => match us, hl with | [_], _ => rfl) fun f cdv A fs s H E hr hgd => ?_
  have nd := sc_check_map.nd
  exact ss_one (s_if (d_tnot (d_tst (d_call (ok_is_map T) (hr.mono (by decide)) hgd (a_cons (d_var 0) (a_nil))))) (ss_one (s_never)) (ss_nil))
theorem ok_led_by (T : Tx K mg) : Ok P w K mg base 4 "led_by" ["chart", "place"] sm_led_by := by
  refine ok_def (N := ["chart", "place", "is_mirrored", "a", "b", "c", "d", "p", "s", "r", "number"]) T.d_led_by sc_led_by (fun _ _ _ _ _ _ us hl => match us, hl with | [_, _], _ => rfl) (fun _ _ _ _ _ _ us hl => match us, hl with | [_, _], _ => rfl) fun f cdv A fs s H E hr hgd => ?_
  have nd := sc_led_by.nd
  exact ss_cons (s_asg (d_var 0) (g_unp rfl (gs_cons (g_name 2 nd) (gs_cons (g_name 3 nd) (gs_cons (g_name 4 nd) (gs_cons (g_name 5 nd) (gs_cons (g_name 6 nd) (gs_nil)))))))) (ss_cons (s_asg (d_var 1) (g_unp rfl (gs_cons (g_name 7 nd) (gs_cons (g_name 8 nd) (gs_cons (g_name 9 nd) (gs_nil)))))) (ss_cons (s_set 10 nd (d_if (t_feq hr (d_var 2) (d_int)) (d_tup (a_cons (d_var 7) (a_cons (d_neg (d_var 8)) (a_nil)))) (d_tup (a_cons (d_var 7) (a_cons (d_var 8) (a_nil)))))) (ss_one (s_ret (d_call (ok_quotient_place T) (hr.mono (by decide)) hgd (a_cons (d_call (ok_plus T) (hr.mono (by decide)) hgd (a_cons (d_call (ok_times T) (hr.mono (by decide)) hgd (a_cons (d_var 3) (a_cons (d_var 10) (a_nil)))) (a_cons (d_call (ok_scaled T) (hr.mono (by decide)) hgd (a_cons (d_var 4) (a_cons (d_var 9) (a_nil)))) (a_nil)))) (a_cons (d_call (ok_plus T) (hr.mono (by decide)) hgd (a_cons (d_call (ok_times T) (hr.mono (by decide)) hgd (a_cons (d_var 5) (a_cons (d_var 10) (a_nil)))) (a_cons (d_call (ok_scaled T) (hr.mono (by decide)) hgd (a_cons (d_var 6) (a_cons (d_var 9) (a_nil)))) (a_nil)))) (a_nil))))))))
theorem ok_joined (T : Tx K mg) : Ok P w K mg base 5 "joined" ["chart", "other"] sm_joined := by
  refine ok_def (N := ["chart", "other", "numbers", "number", "a", "b", "c", "d", "found"]) T.d_joined sc_joined (fun _ _ _ _ _ _ us hl => match us, hl with | [_, _], _ => rfl) (fun _ _ _ _ _ _ us hl => match us, hl with | [_, _], _ => rfl) fun f cdv A fs s H E hr hgd => ?_
  have nd := sc_joined.nd
  exact ss_cons (s_set 2 nd (d_if (t_feq hr (f_ix (d_var 0) (d_int)) (d_int)) (g_tolist T.z_list (a_cons (g_slice (d_var 1) (p_some (d_int)) p_none) (a_nil))) (d_lc [("number", 3)] rfl nd (g_seq (g_slice (d_var 1) (p_some (d_int)) p_none)) (cg_name) (fun _ _ _ _ _ => pg_name (i := 3) nd rfl (by first | exact Or.inl rfl | exact Or.inr rfl)) (fun _ _ _ _ _ => ts_nil) (fun _ _ _ _ _ => d_call (ok_turned_over T) (hr.mono (by decide)) hgd (a_cons (d_var 3) (a_nil))) (ok := blkOk_by (N := ["chart", "other", "numbers", "number", "a", "b", "c", "d", "found"]) (sc := defScope st_joined) (by decide +kernel))))) (ss_cons (s_asg (g_slice (d_var 0) (p_some (d_int)) p_none) (g_unp rfl (gs_cons (g_name 4 nd) (gs_cons (g_name 5 nd) (gs_cons (g_name 6 nd) (gs_cons (g_name 7 nd) (gs_nil))))))) (ss_cons (s_set 8 nd (d_tup (a_cons (d_call (ok_plus T) (hr.mono (by decide)) hgd (a_cons (d_call (ok_times T) (hr.mono (by decide)) hgd (a_cons (d_var 4) (a_cons (f_ix (d_var 2) (d_int)) (a_nil)))) (a_cons (d_call (ok_times T) (hr.mono (by decide)) hgd (a_cons (d_var 5) (a_cons (f_ix (d_var 2) (d_int)) (a_nil)))) (a_nil)))) (a_cons (d_call (ok_plus T) (hr.mono (by decide)) hgd (a_cons (d_call (ok_times T) (hr.mono (by decide)) hgd (a_cons (d_var 4) (a_cons (f_ix (d_var 2) (d_int)) (a_nil)))) (a_cons (d_call (ok_times T) (hr.mono (by decide)) hgd (a_cons (d_var 5) (a_cons (f_ix (d_var 2) (d_int)) (a_nil)))) (a_nil)))) (a_cons (d_call (ok_plus T) (hr.mono (by decide)) hgd (a_cons (d_call (ok_times T) (hr.mono (by decide)) hgd (a_cons (d_var 6) (a_cons (f_ix (d_var 2) (d_int)) (a_nil)))) (a_cons (d_call (ok_times T) (hr.mono (by decide)) hgd (a_cons (d_var 7) (a_cons (f_ix (d_var 2) (d_int)) (a_nil)))) (a_nil)))) (a_cons (d_call (ok_plus T) (hr.mono (by decide)) hgd (a_cons (d_call (ok_times T) (hr.mono (by decide)) hgd (a_cons (d_var 6) (a_cons (f_ix (d_var 2) (d_int)) (a_nil)))) (a_cons (d_call (ok_times T) (hr.mono (by decide)) hgd (a_cons (d_var 7) (a_cons (f_ix (d_var 2) (d_int)) (a_nil)))) (a_nil)))) (a_nil))))))) (ss_one (s_ret (d_call (ok_form_of T) (hr.mono (by decide)) hgd (a_cons (f_mod (f_add (f_ix (d_var 0) (d_int)) (f_ix (d_var 1) (d_int))) (d_int)) (a_cons (d_var 8) (a_nil))))))))
theorem ok_way_back (T : Tx K mg) : Ok P w K mg base 5 "way_back" ["chart"] sm_way_back := by
  refine ok_def (N := ["chart", "is_mirrored", "a", "b", "c", "d", "numbers", "number"]) T.d_way_back sc_way_back (fun _ _ _ _ _ _ us hl => match us, hl with | [_], _ => rfl) (fun _ _ _ _ _ _ us hl => match us, hl with | [_], _ => rfl) fun f cdv A fs s H E hr hgd => ?_
  have nd := sc_way_back.nd
  exact ss_cons (s_asg (d_var 0) (g_unp rfl (gs_cons (g_name 1 nd) (gs_cons (g_name 2 nd) (gs_cons (g_name 3 nd) (gs_cons (g_name 4 nd) (gs_cons (g_name 5 nd) (gs_nil)))))))) (ss_cons (s_set 6 nd (d_lst (a_cons (d_var 5) (a_cons (d_call (ok_scaled T) (hr.mono (by decide)) hgd (a_cons (d_var 3) (a_cons (d_neg (d_int)) (a_nil)))) (a_cons (d_call (ok_scaled T) (hr.mono (by decide)) hgd (a_cons (d_var 4) (a_cons (d_neg (d_int)) (a_nil)))) (a_cons (d_var 2) (a_nil))))))) (ss_cons (s_if (t_feq hr (d_var 1) (d_int)) (ss_one (s_setLc 6 [("number", 7)] rfl nd (g_seq (d_var 6)) (cg_name) (fun _ _ _ _ _ => pg_name (i := 7) nd rfl (by first | exact Or.inl rfl | exact Or.inr rfl)) (fun _ _ _ _ _ => ts_nil) (fun _ _ _ _ _ => d_call (ok_turned_over T) (hr.mono (by decide)) hgd (a_cons (d_var 7) (a_nil))) (ok := blkOk_by (N := ["chart", "is_mirrored", "a", "b", "c", "d", "numbers", "number"]) (sc := defScope st_way_back) (by decide +kernel)) (sw_true rfl rfl rfl (by decide +kernel)))) (ss_nil)) (ss_one (s_ret (d_call (ok_form_of T) (hr.mono (by decide)) hgd (a_cons (d_var 1) (a_cons (d_var 6) (a_nil))))))))
theorem ok_mirror_of (T : Tx K mg) : Ok P w K mg base 5 "mirror_of" ["row"] sm_mirror_of := by
  refine ok_def (N := ["row", "q", "l", "m", "k"]) T.d_mirror_of sc_mirror_of (fun _ _ _ _ _ _ us hl => match us, hl with | [_], _ => rfl) (fun _ _ _ _ _ _ us hl => match us, hl with | [_], _ => rfl) fun f cdv A fs s H E hr hgd => ?_
  have nd := sc_mirror_of.nd
  exact ss_cons (s_asg (d_var 0) (g_unp rfl (gs_cons (g_name 1 nd) (gs_cons (g_name 2 nd) (gs_cons (g_name 3 nd) (gs_cons (g_name 4 nd) (gs_nil))))))) (ss_one (s_ret (d_call (ok_form_of T) (hr.mono (by decide)) hgd (a_cons (d_int) (a_cons (d_lst (a_cons (d_tup (a_cons (d_neg (d_var 2)) (a_cons (d_neg (d_var 3)) (a_nil)))) (a_cons (d_tup (a_cons (f_mul (d_neg (d_int)) (d_var 4)) (a_cons (d_int) (a_nil)))) (a_cons (d_tup (a_cons (f_mul (d_int) (d_var 1)) (a_cons (d_int) (a_nil)))) (a_cons (d_tup (a_cons (d_var 2) (a_cons (d_neg (d_var 3)) (a_nil)))) (a_nil)))))) (a_nil))))))
theorem ok_trace (T : Tx K mg) : Ok P w K mg base 2 "trace" ["chart"] sm_trace := by
  refine ok_def (N := ["chart"]) T.d_trace sc_trace (fun _ _ _ _ _ _ us hl => match us, hl with | [_], _ => rfl) (fun _ _ _ _ _ _ us hl => match us, hl with | [_], _ => rfl) fun f cdv A fs s H E hr hgd => ?_
  have nd := sc_trace.nd
  exact ss_one (s_ret (d_call (ok_plus T) (hr.mono (by decide)) hgd (a_cons (f_ix (d_var 0) (d_int)) (a_cons (f_ix (d_var 0) (d_int)) (a_nil)))))
theorem ok_trace_place (T : Tx K mg) : Ok P w K mg base 4 "trace_place" ["chart"] sm_trace_place := by
  refine ok_def (N := ["chart"]) T.d_trace_place sc_trace_place (fun _ _ _ _ _ _ us hl => match us, hl with | [_], _ => rfl) (fun _ _ _ _ _ _ us hl => match us, hl with | [_], _ => rfl) fun f cdv A fs s H E hr hgd => ?_
  have nd := sc_trace_place.nd
  exact ss_one (s_ret (d_call (ok_quotient_place T) (hr.mono (by decide)) hgd (a_cons (d_call (ok_times T) (hr.mono (by decide)) hgd (a_cons (d_call (ok_trace T) (hr.mono (by decide)) hgd (a_cons (d_var 0) (a_nil))) (a_cons (d_call (ok_trace T) (hr.mono (by decide)) hgd (a_cons (d_var 0) (a_nil))) (a_nil)))) (a_cons (d_call (ok_determinant T) (hr.mono (by decide)) hgd (a_cons (d_var 0) (a_nil))) (a_nil)))))
theorem ok_plain_kind (T : Tx K mg) : Ok P w K mg base 5 "plain_kind" ["chart"] sm_plain_kind := by
  refine ok_def (N := ["chart", "p", "s", "r"]) T.d_plain_kind sc_plain_kind (fun _ _ _ _ _ _ us hl => match us, hl with | [_], _ => rfl) (fun _ _ _ _ _ _ us hl => match us, hl with | [_], _ => rfl) fun f cdv A fs s H E hr hgd => ?_
  have nd := sc_plain_kind.nd
  exact ss_cons (s_if (t_feq hr (d_var 0) (d_gc T.c_STAYS)) (ss_one (s_ret (d_str))) (ss_nil)) (ss_cons (s_asg (d_call (ok_trace_place T) (hr.mono (by decide)) hgd (a_cons (d_var 0) (a_nil))) (g_unp rfl (gs_cons (g_name 1 nd) (gs_cons (g_name 2 nd) (gs_cons (g_name 3 nd) (gs_nil)))))) (ss_cons (s_if (t_fne hr (d_var 2) (d_int)) (ss_one (s_ret (d_str))) (ss_nil)) (ss_cons (s_if (t_flt (d_var 1) (d_int)) (ss_one (s_ret (d_str))) (ss_nil)) (ss_cons (s_if (t_feq hr (d_var 1) (f_mul (d_int) (d_var 3))) (ss_one (s_ret (d_str))) (ss_nil)) (ss_one (s_ret (d_if (t_flt (d_var 1) (f_mul (d_int) (d_var 3))) (d_str) (d_str))))))))
theorem ok_kind (T : Tx K mg) : Ok P w K mg base 6 "kind" ["chart"] sm_kind := by
  refine ok_def (N := ["chart", "square", "a", "b", "c", "d"]) T.d_kind sc_kind (fun _ _ _ _ _ _ us hl => match us, hl with | [_], _ => rfl) (fun _ _ _ _ _ _ us hl => match us, hl with | [_], _ => rfl) fun f cdv A fs s H E hr hgd => ?_
  have nd := sc_kind.nd
  exact ss_cons (s_if (t_feq hr (f_ix (d_var 0) (d_int)) (d_int)) (ss_one (s_ret (d_call (ok_plain_kind T) (hr.mono (by decide)) hgd (a_cons (d_var 0) (a_nil))))) (ss_nil)) (ss_cons (s_set 1 nd (d_call (ok_joined T) (hr.mono (by decide)) hgd (a_cons (d_var 0) (a_cons (d_var 0) (a_nil))))) (ss_cons (s_if (t_fne hr (d_var 1) (d_gc T.c_STAYS)) (ss_one (s_ret (d_call (ok_plain_kind T) (hr.mono (by decide)) hgd (a_cons (d_var 1) (a_nil))))) (ss_nil)) (ss_cons (s_asg (g_slice (d_var 0) (p_some (d_int)) p_none) (g_unp rfl (gs_cons (g_name 2 nd) (gs_cons (g_name 3 nd) (gs_cons (g_name 4 nd) (gs_cons (g_name 5 nd) (gs_nil))))))) (ss_one (s_ret (d_if (t_fgt (f_ix (d_call (ok_plus T) (hr.mono (by decide)) hgd (a_cons (d_call (ok_times T) (hr.mono (by decide)) hgd (a_cons (d_var 2) (a_cons (d_tup (a_cons (f_ix (d_var 2) (d_int)) (a_cons (d_neg (f_ix (d_var 2) (d_int))) (a_nil)))) (a_nil)))) (a_cons (d_call (ok_times T) (hr.mono (by decide)) hgd (a_cons (d_var 3) (a_cons (d_tup (a_cons (f_ix (d_var 4) (d_int)) (a_cons (d_neg (f_ix (d_var 4) (d_int))) (a_nil)))) (a_nil)))) (a_nil)))) (d_int)) (d_int)) (d_str) (d_str)))))))
theorem ok_kind_of (T : Tx K mg) : Ok P w K mg base 7 "kind_of" ["chart"] sm_kind_of := by
  refine ok_def (N := ["chart"]) T.d_kind_of sc_kind_of (fun _ _ _ _ _ _ us hl => match us, hl with | [_], _ => rfl) (fun _ _ _ _ _ _ us hl => match us, hl with | [_], _ => rfl) fun f cdv A fs s H E hr hgd => ?_
  have nd := sc_kind_of.nd
  exact ss_cons (s_expr (d_call (ok_check_map T) (hr.mono (by decide)) hgd (a_cons (d_var 0) (a_nil)))) (ss_one (s_ret (d_call (ok_kind T) (hr.mono (by decide)) hgd (a_cons (d_var 0) (a_nil)))))
theorem ok_staying (T : Tx K mg) : Ok P w K mg base 8 "staying" ["chart"] sm_staying := by
  refine ok_def (N := ["chart", "word"]) T.d_staying sc_staying (fun _ _ _ _ _ _ us hl => match us, hl with | [_], _ => rfl) (fun _ _ _ _ _ _ us hl => match us, hl with | [_], _ => rfl) fun f cdv A fs s H E hr hgd => ?_
  have nd := sc_staying.nd
  exact ss_cons (s_set 1 nd (d_call (ok_kind_of T) (hr.mono (by decide)) hgd (a_cons (d_var 0) (a_nil)))) (ss_cons (s_if (t_feq hr (d_var 1) (d_str)) (ss_one (s_ret (d_str))) (ss_nil)) (ss_cons (s_if (t_feq hr (d_var 1) (d_str)) (ss_one (s_ret (d_str))) (ss_nil)) (ss_cons (s_if (t_feq hr (d_var 1) (d_str)) (ss_one (s_ret (d_int))) (ss_nil)) (ss_one (s_ret (d_if ((d_wand (t_feq hr (f_ix (d_var 0) (d_int)) (d_int)) (d_w1a (t_fne hr (d_var 1) (d_str)))).pt) (d_int) (d_int)))))))
theorem ok_plain_kept (T : Tx K mg) : Ok P w K mg base 4 "plain_kept" ["chart"] sm_plain_kept := by
  refine ok_def (N := ["chart", "a", "b", "c", "d", "deep", "found", "number"]) T.d_plain_kept sc_plain_kept (fun _ _ _ _ _ _ us hl => match us, hl with | [_], _ => rfl) (fun _ _ _ _ _ _ us hl => match us, hl with | [_], _ => rfl) fun f cdv A fs s H E hr hgd => ?_
  have nd := sc_plain_kept.nd
  exact ss_cons (s_asg (g_slice (d_var 0) (p_some (d_int)) p_none) (g_unp rfl (gs_cons (g_name 1 nd) (gs_cons (g_name 2 nd) (gs_cons (g_name 3 nd) (gs_cons (g_name 4 nd) (gs_nil))))))) (ss_cons (s_if (t_feq hr (d_var 3) (d_gc T.c_ZERO)) (ss_one (s_ret (d_if (t_feq hr (d_var 1) (d_var 4)) (d_tup (a_cons (d_gc T.c_FAR) (a_nil))) (g_totup T.z_tuple (a_cons (g_sortT T.z_sorted (a_cons (d_lst (a_cons (d_gc T.c_FAR) (a_cons (d_call (ok_quotient_place T) (hr.mono (by decide)) hgd (a_cons (d_var 2) (a_cons (d_call (ok_minus T) (hr.mono (by decide)) hgd (a_cons (d_var 4) (a_cons (d_var 1) (a_nil)))) (a_nil)))) (a_nil)))) (a_nil))) (a_nil)))))) (ss_nil)) (ss_cons (s_set 5 nd (d_call (ok_root T) (hr.mono (by decide)) hgd (a_cons (d_call (ok_minus T) (hr.mono (by decide)) hgd (a_cons (d_call (ok_times T) (hr.mono (by decide)) hgd (a_cons (d_call (ok_trace T) (hr.mono (by decide)) hgd (a_cons (d_var 0) (a_nil))) (a_cons (d_call (ok_trace T) (hr.mono (by decide)) hgd (a_cons (d_var 0) (a_nil))) (a_nil)))) (a_cons (d_call (ok_scaled T) (hr.mono (by decide)) hgd (a_cons (d_call (ok_determinant T) (hr.mono (by decide)) hgd (a_cons (d_var 0) (a_nil))) (a_cons (d_int) (a_nil)))) (a_nil)))) (a_nil)))) (ss_cons (s_if (t_isN (d_var 5)) (ss_one (s_ret (d_tup (a_nil)))) (ss_nil)) (ss_cons (s_setLc 6 [("number", 7)] rfl nd (g_seq (d_tup (a_cons (d_call (ok_plus T) (hr.mono (by decide)) hgd (a_cons (d_call (ok_minus T) (hr.mono (by decide)) hgd (a_cons (d_var 1) (a_cons (d_var 4) (a_nil)))) (a_cons (d_var 5) (a_nil)))) (a_cons (d_call (ok_minus T) (hr.mono (by decide)) hgd (a_cons (d_call (ok_minus T) (hr.mono (by decide)) hgd (a_cons (d_var 1) (a_cons (d_var 4) (a_nil)))) (a_cons (d_var 5) (a_nil)))) (a_nil))))) (cg_name) (fun _ _ _ _ _ => pg_name (i := 7) nd rfl (by first | exact Or.inl rfl | exact Or.inr rfl)) (fun _ _ _ _ _ => ts_nil) (fun _ _ _ _ _ => d_call (ok_quotient_place T) (hr.mono (by decide)) hgd (a_cons (d_var 7) (a_cons (d_call (ok_scaled T) (hr.mono (by decide)) hgd (a_cons (d_var 3) (a_cons (d_int) (a_nil)))) (a_nil)))) (ok := blkOk_by (N := ["chart", "a", "b", "c", "d", "deep", "found", "number"]) (sc := defScope st_plain_kept) (by decide +kernel)) (sw_true rfl rfl rfl (by decide +kernel))) (ss_one (s_ret (g_totup T.z_tuple (a_cons (g_sortS rfl (room66 hr) T.z_sorted T.z_set (a_cons (d_var 6) (a_nil))) (a_nil)))))))))
theorem ok_staying_places (T : Tx K mg) : Ok P w K mg base 9 "staying_places" ["chart"] sm_staying_places := by
  refine ok_def (N := ["chart", "square", "place"]) T.d_staying_places sc_staying_places (fun _ _ _ _ _ _ us hl => match us, hl with | [_], _ => rfl) (fun _ _ _ _ _ _ us hl => match us, hl with | [_], _ => rfl) fun f cdv A fs s H E hr hgd => ?_
  have nd := sc_staying_places.nd
  exact ss_cons (s_expr (d_call (ok_check_map T) (hr.mono (by decide)) hgd (a_cons (d_var 0) (a_nil)))) (ss_cons (s_if (t_finS hr (d_call (ok_staying T) (hr.mono (by decide)) hgd (a_cons (d_var 0) (a_nil))) (d_tup (a_cons (d_str) (a_cons (d_str) (a_nil))))) (ss_one (s_ret (d_non))) (ss_nil)) (ss_cons (s_if (t_feq hr (f_ix (d_var 0) (d_int)) (d_int)) (ss_one (s_ret (d_call (ok_plain_kept T) (hr.mono (by decide)) hgd (a_cons (d_var 0) (a_nil))))) (ss_nil)) (ss_cons (s_set 1 nd (d_call (ok_joined T) (hr.mono (by decide)) hgd (a_cons (d_var 0) (a_cons (d_var 0) (a_nil))))) (ss_one (s_ret (d_if (t_feq hr (d_var 1) (d_gc T.c_STAYS)) (d_tup (a_nil)) (g_totup T.z_tuple (a_cons (d_lc [("place", 2)] rfl nd (g_seq (d_call (ok_plain_kept T) (hr.mono (by decide)) hgd (a_cons (d_var 1) (a_nil)))) (cg_name) (fun _ _ _ _ _ => pg_name (i := 2) nd rfl (by first | exact Or.inl rfl | exact Or.inr rfl)) (fun _ _ _ _ _ => ts_one (t_feq hr (d_call (ok_led_by T) (hr.mono (by decide)) hgd (a_cons (d_var 0) (a_cons (d_var 2) (a_nil)))) (d_var 2))) (fun _ _ _ _ _ => d_var 2) (ok := blkOk_by (N := ["chart", "square", "place"]) (sc := defScope st_staying_places) (by decide +kernel))) (a_nil)))))))))
theorem ok_step_between (T : Tx K mg) : Ok P w K mg base 6 "step_between" ["chart", "other"] sm_step_between := by
  refine ok_def (N := ["chart", "other"]) T.d_step_between sc_step_between (fun _ _ _ _ _ _ us hl => match us, hl with | [_, _], _ => rfl) (fun _ _ _ _ _ _ us hl => match us, hl with | [_, _], _ => rfl) fun f cdv A fs s H E hr hgd => ?_
  have nd := sc_step_between.nd
  exact ss_one (s_ret (d_call (ok_joined T) (hr.mono (by decide)) hgd (a_cons (d_call (ok_way_back T) (hr.mono (by decide)) hgd (a_cons (d_var 1) (a_nil))) (a_cons (d_var 0) (a_nil)))))
theorem ok_rows_kept (T : Tx K mg) : Ok P w K mg base 1 "rows_kept" ["chart"] sm_rows_kept := by
  refine ok_def (N := ["chart", "a", "b", "c", "d"]) T.d_rows_kept sc_rows_kept (fun _ _ _ _ _ _ us hl => match us, hl with | [_], _ => rfl) (fun _ _ _ _ _ _ us hl => match us, hl with | [_], _ => rfl) fun f cdv A fs s H E hr hgd => ?_
  have nd := sc_rows_kept.nd
  exact ss_cons (s_asg (g_slice (d_var 0) (p_some (d_int)) p_none) (g_unp rfl (gs_cons (g_name 1 nd) (gs_cons (g_name 2 nd) (gs_cons (g_name 3 nd) (gs_cons (g_name 4 nd) (gs_nil))))))) (ss_one (s_ret (d_lst (a_cons (d_tup (a_cons (f_ix (d_var 3) (d_int)) (a_cons (f_sub (f_ix (d_var 4) (d_int)) (f_ix (d_var 1) (d_int))) (a_cons (f_sub (d_neg (f_ix (d_var 4) (d_int))) (f_ix (d_var 1) (d_int))) (a_cons (d_neg (f_ix (d_var 2) (d_int))) (a_nil)))))) (a_cons (d_tup (a_cons (f_ix (d_var 3) (d_int)) (a_cons (f_sub (f_ix (d_var 4) (d_int)) (f_ix (d_var 1) (d_int))) (a_cons (f_add (f_ix (d_var 4) (d_int)) (f_ix (d_var 1) (d_int))) (a_cons (d_neg (f_ix (d_var 2) (d_int))) (a_nil)))))) (a_nil))))))
theorem ok_row_of_mirror (T : Tx K mg) : Ok P w K mg base 4 "row_of_mirror" ["chart"] sm_row_of_mirror := by
  refine ok_def (N := ["chart", "row"]) T.d_row_of_mirror sc_row_of_mirror (fun _ _ _ _ _ _ us hl => match us, hl with | [_], _ => rfl) (fun _ _ _ _ _ _ us hl => match us, hl with | [_], _ => rfl) fun f cdv A fs s H E hr hgd => ?_
  have nd := sc_row_of_mirror.nd
  exact ss_one (s_ret (d_call (ok_first_above T) (hr.mono (by decide)) hgd (a_cons (f_ix (d_lc [("row", 1)] rfl nd (g_seq (d_call (ok_rows_kept T) (hr.mono (by decide)) hgd (a_cons (d_var 0) (a_nil)))) (cg_name) (fun _ _ _ _ _ => pg_name (i := 1) nd rfl (by first | exact Or.inl rfl | exact Or.inr rfl)) (fun _ _ _ _ _ => ts_one (t_fne hr (d_var 1) (d_tup (a_cons (d_int) (a_cons (d_int) (a_cons (d_int) (a_cons (d_int) (a_nil)))))))) (fun _ _ _ _ _ => d_var 1) (ok := blkOk_by (N := ["chart", "row"]) (sc := defScope st_row_of_mirror) (by decide +kernel))) (d_int)) (a_nil))))
theorem ok_agreement (T : Tx K mg) : Ok P w K mg base 10 "agreement" ["chart", "other"] sm_agreement := by
  refine ok_def (N := ["chart", "other", "step"]) T.d_agreement sc_agreement (fun _ _ _ _ _ _ us hl => match us, hl with | [_, _], _ => rfl) (fun _ _ _ _ _ _ us hl => match us, hl with | [_, _], _ => rfl) fun f cdv A fs s H E hr hgd => ?_
  have nd := sc_agreement.nd
  exact ss_cons (s_expr (d_call (ok_check_map T) (hr.mono (by decide)) hgd (a_cons (d_var 0) (a_nil)))) (ss_cons (s_expr (d_call (ok_check_map T) (hr.mono (by decide)) hgd (a_cons (d_var 1) (a_nil)))) (ss_cons (s_set 2 nd (d_call (ok_step_between T) (hr.mono (by decide)) hgd (a_cons (d_var 0) (a_cons (d_var 1) (a_nil))))) (ss_cons (s_if (t_feq hr (d_var 2) (d_gc T.c_STAYS)) (ss_one (s_ret (d_tup (a_cons (d_str) (a_nil))))) (ss_nil)) (ss_cons (s_if (t_feq hr (d_call (ok_kind T) (hr.mono (by decide)) hgd (a_cons (d_var 2) (a_nil))) (d_str)) (ss_one (s_ret (d_tup (a_cons (d_str) (a_cons (d_call (ok_row_of_mirror T) (hr.mono (by decide)) hgd (a_cons (d_var 2) (a_nil))) (a_nil)))))) (ss_nil)) (ss_one (s_ret (d_tup (a_cons (d_str) (a_cons (d_call (ok_staying T) (hr.mono (by decide)) hgd (a_cons (d_var 2) (a_nil))) (a_cons (d_call (ok_staying_places T) (hr.mono (by decide)) hgd (a_cons (d_var 2) (a_nil))) (a_nil)))))))))))
theorem ok_agree_on (T : Tx K mg) : Ok P w K mg base 7 "agree_on" ["chart", "other", "circle"] sm_agree_on := by
  refine ok_def (N := ["chart", "other", "circle"]) T.d_agree_on sc_agree_on (fun _ _ _ _ _ _ us hl => match us, hl with | [_, _, _], _ => rfl) (fun _ _ _ _ _ _ us hl => match us, hl with | [_, _, _], _ => rfl) fun f cdv A fs s H E hr hgd => ?_
  have nd := sc_agree_on.nd
  exact ss_cons (s_expr (d_call (ok_check_map T) (hr.mono (by decide)) hgd (a_cons (d_var 0) (a_nil)))) (ss_cons (s_expr (d_call (ok_check_map T) (hr.mono (by decide)) hgd (a_cons (d_var 1) (a_nil)))) (ss_cons (s_expr (d_call (ok_check_round T) (hr.mono (by decide)) hgd (a_cons (d_var 2) (a_nil)))) (ss_one (s_ret (d_finS hr (d_call (ok_step_between T) (hr.mono (by decide)) hgd (a_cons (d_var 0) (a_cons (d_var 1) (a_nil)))) (d_tup (a_cons (d_gc T.c_STAYS) (a_cons (d_call (ok_mirror_of T) (hr.mono (by decide)) hgd (a_cons (d_var 2) (a_nil))) (a_nil)))))))))
theorem ok_mirror_round (T : Tx K mg) : Ok P w K mg base 7 "mirror_round" ["chart"] sm_mirror_round := by
  refine ok_def (N := ["chart"]) T.d_mirror_round sc_mirror_round (fun _ _ _ _ _ _ us hl => match us, hl with | [_], _ => rfl) (fun _ _ _ _ _ _ us hl => match us, hl with | [_], _ => rfl) fun f cdv A fs s H E hr hgd => ?_
  have nd := sc_mirror_round.nd
  exact ss_cons (s_expr (d_call (ok_check_map T) (hr.mono (by decide)) hgd (a_cons (d_var 0) (a_nil)))) (ss_one (s_ret (d_if (t_feq hr (d_call (ok_kind T) (hr.mono (by decide)) hgd (a_cons (d_var 0) (a_nil))) (d_str)) (d_call (ok_row_of_mirror T) (hr.mono (by decide)) hgd (a_cons (d_var 0) (a_nil))) (d_non))))
theorem ok__law_well (T : Tx K mg) : OkO P w K mg base 1 "_law_well" ["_law_script", "_law_spot_here"] sm__law_well := by
  refine ok_defO (N := ["_law_script", "_law_spot_here", "_law_mixed", "_law_cell", "_law_own", "_law_rest"]) T.d__law_well sc__law_well (fun _ _ _ _ _ _ us hl => match us, hl with | [_, _], _ => rfl) fun f cdv A fs s H E hr hgd => ?_
  have nd := sc__law_well.nd
  exact so_cons (s_set 2 nd (f_add (d_int) (f_mul (d_int) (d_var 1)))) (so_cons (s_forI PassesOwn.never rfl (g_seq (g_slice (d_var 0) p_none (p_some (d_int)))) (g_name 3 nd) (ss_one (s_set 2 nd (f_mod (g_toint T.z_int (a_cons (f_add (f_add (f_mul (d_var 2) (d_int)) (f_mod (g_toint T.z_int (a_cons (d_var 3) (a_nil))) (d_int))) (d_int)) (a_nil))) (d_int))))) (so_cons (s_set 4 nd (d_if (t_flt (d_var 1) (g_len T.z_len (a_cons (d_var 0) (a_nil)))) (g_toint T.z_int (a_cons (f_ix (d_var 0) (d_var 1)) (a_nil))) (d_int))) (so_cons (s_set 5 nd (d_if ((d_wor (t_flt (d_var 4) (d_int)) (d_w1o (t_fge (d_var 4) (f_pow (d_int) (d_int))))).pt) (g_abs T.z_abs (a_cons (d_var 4) (a_nil))) (d_int))) (so_ret (a_cons (d_var 5) (a_cons (f_mod (g_toint T.z_int (a_cons (f_add (f_add (f_mul (d_var 2) (d_int)) (f_mul (f_mod (g_toint T.z_int (a_cons (d_var 4) (a_nil))) (d_int)) (d_int))) (d_int)) (a_nil))) (d_int)) (a_cons (d_int) (a_nil))))))))
theorem ok__law_dip (T : Tx K mg) : Ok P w K mg base 1 "_law_dip" ["_law_well_here", "_law_many"] sm__law_dip := by
  refine ok_def (N := ["_law_well_here", "_law_many", "_law_digit", "_law_step"]) T.d__law_dip sc__law_dip (fun _ _ _ _ _ _ us hl => match us, hl with | [_, _], _ => rfl) (fun _ _ _ _ _ _ us hl => match us, hl with | [_, _], _ => rfl) fun f cdv A fs s H E hr hgd => ?_
  have nd := sc__law_dip.nd
  exact ss_cons (s_if (t_fgt (d_tix 0 (d_int)) (d_int)) (ss_cons (s_asg (g_divmod T.z_divmod (a_cons (d_tix 0 (d_int)) (a_cons (d_var 1) (a_nil)))) (g_unp rfl (gs_cons (g_tset 0 (d_int)) (gs_cons (g_name 2 nd) (gs_nil))))) (ss_one (s_ret (d_var 2)))) (ss_nil)) (ss_cons (s_asg (f_add (d_tix 0 (d_int)) (d_int)) (g_tset 0 (d_int))) (ss_cons (s_set 3 nd (f_add (f_mod (g_toint T.z_int (a_cons (d_tix 0 (d_int)) (a_nil))) (d_int)) (d_int))) (ss_cons (s_asg (f_mod (g_toint T.z_int (a_cons (f_add (f_add (f_mul (d_tix 0 (d_int)) (d_var 3)) (f_mul (d_int) (d_tix 0 (d_int)))) (d_int)) (a_nil))) (d_int)) (g_tset 0 (d_int))) (ss_one (s_ret (f_mod (g_toint T.z_int (a_cons (f_div (d_tix 0 (d_int)) (d_int)) (a_nil))) (d_var 1)))))))
theorem ok__law_of (T : Tx K mg) : Ok P w K mg base 2 "_law_of" ["_law_well_here", "_law_some"] sm__law_of := by
  refine ok_def (N := ["_law_well_here", "_law_some"]) T.d__law_of sc__law_of (fun _ _ _ _ _ _ us hl => match us, hl with | [_, _], _ => rfl) (fun _ _ _ _ _ _ us hl => match us, hl with | [_, _], _ => rfl) fun f cdv A fs s H E hr hgd => ?_
  have nd := sc__law_of.nd
  exact ss_one (s_ret (f_ix (d_var 1) (d_call (ok__law_dip T) (hr.mono (by decide)) hgd (a_tank 0 (a_cons (g_len T.z_len (a_cons (d_var 1) (a_nil))) (a_nil))))))
theorem ok__law_whole (T : Tx K mg) : Ok P w K mg base 2 "_law_whole" ["_law_well_here", "_law_wide"] sm__law_whole := by
  refine ok_def (N := ["_law_well_here", "_law_wide", "_law_high"]) T.d__law_whole sc__law_whole (fun _ _ _ _ _ _ us hl => match us, hl with | [_, _], _ => rfl) (fun _ _ _ _ _ _ us hl => match us, hl with | [_, _], _ => rfl) fun f cdv A fs s H E hr hgd => ?_
  have nd := sc__law_whole.nd
  exact ss_cons (s_if (t_fle (d_var 1) (d_int)) (ss_one (s_ret (f_sub (d_call (ok__law_dip T) (hr.mono (by decide)) hgd (a_tank 0 (a_cons (f_add (f_mul (d_int) (d_var 1)) (d_int)) (a_nil)))) (d_var 1)))) (ss_nil)) (ss_cons (s_set 2 nd (f_sub (d_call (ok__law_dip T) (hr.mono (by decide)) hgd (a_tank 0 (a_cons (f_add (f_mul (d_int) (f_div (d_var 1) (d_int))) (d_int)) (a_nil)))) (f_div (d_var 1) (d_int)))) (ss_one (s_ret (f_add (f_mul (d_int) (d_var 2)) (d_call (ok__law_dip T) (hr.mono (by decide)) hgd (a_tank 0 (a_cons (d_int) (a_nil))))))))
theorem ok__law_rounds (T : Tx K mg) : Ok P w K mg base 1 "_law_rounds" ["_law_script"] sm__law_rounds := by
  refine ok_def (N := ["_law_script"]) T.d__law_rounds sc__law_rounds (fun _ _ _ _ _ _ us hl => match us, hl with | [_], _ => rfl) (fun _ _ _ _ _ _ us hl => match us, hl with | [_], _ => rfl) fun f cdv A fs s H E hr hgd => ?_
  have nd := sc__law_rounds.nd
  exact ss_one (s_ret (g_max2 rfl T.z_max (a_cons (d_int) (a_cons (g_min2 rfl T.z_min (a_cons (g_len T.z_len (a_cons (d_var 0) (a_nil))) (a_cons (d_int) (a_nil)))) (a_nil)))))
theorem ok__law_gcd (T : Tx K mg) : Ok P w K mg base 1 "_law_gcd" ["_law_one", "_law_two"] sm__law_gcd := by
  refine ok_def (N := ["_law_one", "_law_two", "_law_left", "_law_right_here"]) T.d__law_gcd sc__law_gcd (fun _ _ _ _ _ _ us hl => match us, hl with | [_, _], _ => rfl) (fun _ _ _ _ _ _ us hl => match us, hl with | [_, _], _ => rfl) fun f cdv A fs s H E hr hgd => ?_
  have nd := sc__law_gcd.nd
  exact ss_cons (s_par 2 3 rfl nd (a_cons (g_abs T.z_abs (a_cons (d_var 0) (a_nil))) (a_cons (g_abs T.z_abs (a_cons (d_var 1) (a_nil))) (a_nil)))) (ss_cons (s_while PassesOwn.never (t_fgt (d_var 3) (d_int)) (ss_one (s_par 2 3 rfl nd (a_cons (d_var 3) (a_cons (f_mod (g_toint T.z_int (a_cons (d_var 2) (a_nil))) (d_var 3)) (a_nil)))))) (ss_one (s_ret (d_var 2))))
theorem ok__law_cut (T : Tx K mg) : Ok P w K mg base 2 "_law_cut" ["_law_numbers"] sm__law_cut := by
  refine ok_def (N := ["_law_numbers", "_law_part", "_law_number"]) T.d__law_cut sc__law_cut (fun _ _ _ _ _ _ us hl => match us, hl with | [_], _ => rfl) (fun _ _ _ _ _ _ us hl => match us, hl with | [_], _ => rfl) fun f cdv A fs s H E hr hgd => ?_
  have nd := sc__law_cut.nd
  exact ss_cons (s_set 1 nd (d_int)) (ss_cons (s_forI PassesOwn.never rfl (g_seq (d_var 0)) (g_name 2 nd) (ss_one (s_set 1 nd (d_call (ok__law_gcd T) (hr.mono (by decide)) hgd (a_cons (d_var 1) (a_cons (d_var 2) (a_nil))))))) (ss_one (s_ret (g_totup T.z_tuple (a_cons (d_lc [("_law_number", 2)] rfl nd (g_seq (d_var 0)) (cg_name) (fun _ _ _ _ _ => pg_name (i := 2) nd rfl (by first | exact Or.inl rfl | exact Or.inr rfl)) (fun _ _ _ _ _ => ts_nil) (fun _ _ _ _ _ => f_div (d_var 2) (d_var 1)) (ok := blkOk_by (N := ["_law_numbers", "_law_part", "_law_number"]) (sc := defScope st__law_cut) (by decide +kernel))) (a_nil))))))
theorem ok__law_form (T : Tx K mg) : Ok P w K mg base 3 "_law_form" ["_law_row"] sm__law_form := by
  refine ok_def (N := ["_law_row", "_law_first", "_law_number"]) T.d__law_form sc__law_form (fun _ _ _ _ _ _ us hl => match us, hl with | [_], _ => rfl) (fun _ _ _ _ _ _ us hl => match us, hl with | [_], _ => rfl) fun f cdv A fs s H E hr hgd => ?_
  have nd := sc__law_form.nd
  exact ss_cons (s_set 0 nd (d_call (ok__law_cut T) (hr.mono (by decide)) hgd (a_cons (d_var 0) (a_nil)))) (ss_cons (s_set 1 nd (f_ix (d_lc [("_law_number", 2)] rfl nd (g_seq (d_var 0)) (cg_name) (fun _ _ _ _ _ => pg_name (i := 2) nd rfl (by first | exact Or.inl rfl | exact Or.inr rfl)) (fun _ _ _ _ _ => ts_one (t_fne hr (d_var 2) (d_int))) (fun _ _ _ _ _ => d_var 2) (ok := blkOk_by (N := ["_law_row", "_law_first", "_law_number"]) (sc := defScope st__law_form) (by decide +kernel))) (d_int))) (ss_one (s_ret (d_if (t_fgt (d_var 1) (d_int)) (d_var 0) (g_totup T.z_tuple (a_cons (d_lc [("_law_number", 2)] rfl nd (g_seq (d_var 0)) (cg_name) (fun _ _ _ _ _ => pg_name (i := 2) nd rfl (by first | exact Or.inl rfl | exact Or.inr rfl)) (fun _ _ _ _ _ => ts_nil) (fun _ _ _ _ _ => f_sub (d_int) (d_var 2)) (ok := blkOk_by (N := ["_law_row", "_law_first", "_law_number"]) (sc := defScope st__law_form) (by decide +kernel))) (a_nil)))))))
theorem ok__law_root (T : Tx K mg) : Ok P w K mg base 1 "_law_root" ["_law_number"] sm__law_root := by
  refine ok_def (N := ["_law_number", "_law_low", "_law_high", "_law_turn", "_law_middle"]) T.d__law_root sc__law_root (fun _ _ _ _ _ _ us hl => match us, hl with | [_], _ => rfl) (fun _ _ _ _ _ _ us hl => match us, hl with | [_], _ => rfl) fun f cdv A fs s H E hr hgd => ?_
  have nd := sc__law_root.nd
  exact ss_cons (s_par 1 2 rfl nd (a_cons (d_int) (a_cons (f_shl (d_int) (f_add (f_div (g_bits (d_var 0)) (d_int)) (d_int))) (a_nil)))) (ss_cons (s_forI PassesOwn.never rfl (i_range1 T.z_range (a_cons (f_add (f_div (g_bits (d_var 0)) (d_int)) (d_int)) (a_nil))) (g_name 3 nd) (ss_cons (s_set 4 nd (f_div (f_add (d_var 1) (d_var 2)) (d_int))) (ss_one (s_if (t_fle (f_mul (d_var 4) (d_var 4)) (d_var 0)) (ss_one (s_set 1 nd (d_var 4))) (ss_one (s_set 2 nd (d_var 4))))))) (ss_one (s_ret (d_var 1))))
theorem ok__law_times (T : Tx K mg) : Ok P w K mg base 1 "_law_times" ["_law_x", "_law_y"] sm__law_times := by
  refine ok_def (N := ["_law_x", "_law_y"]) T.d__law_times sc__law_times (fun _ _ _ _ _ _ us hl => match us, hl with | [_, _], _ => rfl) (fun _ _ _ _ _ _ us hl => match us, hl with | [_, _], _ => rfl) fun f cdv A fs s H E hr hgd => ?_
  have nd := sc__law_times.nd
  exact ss_one (s_ret (d_tup (a_cons (f_sub (f_mul (f_ix (d_var 0) (d_int)) (f_ix (d_var 1) (d_int))) (f_mul (f_ix (d_var 0) (d_int)) (f_ix (d_var 1) (d_int)))) (a_cons (f_add (f_mul (f_ix (d_var 0) (d_int)) (f_ix (d_var 1) (d_int))) (f_mul (f_ix (d_var 0) (d_int)) (f_ix (d_var 1) (d_int)))) (a_nil)))))
theorem ok__law_plus (T : Tx K mg) : Ok P w K mg base 1 "_law_plus" ["_law_x", "_law_y"] sm__law_plus := by
  refine ok_def (N := ["_law_x", "_law_y"]) T.d__law_plus sc__law_plus (fun _ _ _ _ _ _ us hl => match us, hl with | [_, _], _ => rfl) (fun _ _ _ _ _ _ us hl => match us, hl with | [_, _], _ => rfl) fun f cdv A fs s H E hr hgd => ?_
  have nd := sc__law_plus.nd
  exact ss_one (s_ret (d_tup (a_cons (f_add (f_ix (d_var 0) (d_int)) (f_ix (d_var 1) (d_int))) (a_cons (f_add (f_ix (d_var 0) (d_int)) (f_ix (d_var 1) (d_int))) (a_nil)))))
theorem ok__law_minus (T : Tx K mg) : Ok P w K mg base 1 "_law_minus" ["_law_x"] sm__law_minus := by
  refine ok_def (N := ["_law_x"]) T.d__law_minus sc__law_minus (fun _ _ _ _ _ _ us hl => match us, hl with | [_], _ => rfl) (fun _ _ _ _ _ _ us hl => match us, hl with | [_], _ => rfl) fun f cdv A fs s H E hr hgd => ?_
  have nd := sc__law_minus.nd
  exact ss_one (s_ret (d_tup (a_cons (f_sub (d_int) (f_ix (d_var 0) (d_int))) (a_cons (f_sub (d_int) (f_ix (d_var 0) (d_int))) (a_nil)))))
theorem ok__law_conj (T : Tx K mg) : Ok P w K mg base 1 "_law_conj" ["_law_x"] sm__law_conj := by
  refine ok_def (N := ["_law_x"]) T.d__law_conj sc__law_conj (fun _ _ _ _ _ _ us hl => match us, hl with | [_], _ => rfl) (fun _ _ _ _ _ _ us hl => match us, hl with | [_], _ => rfl) fun f cdv A fs s H E hr hgd => ?_
  have nd := sc__law_conj.nd
  exact ss_one (s_ret (d_tup (a_cons (f_ix (d_var 0) (d_int)) (a_cons (f_sub (d_int) (f_ix (d_var 0) (d_int))) (a_nil)))))
theorem ok__law_norm (T : Tx K mg) : Ok P w K mg base 1 "_law_norm" ["_law_x"] sm__law_norm := by
  refine ok_def (N := ["_law_x"]) T.d__law_norm sc__law_norm (fun _ _ _ _ _ _ us hl => match us, hl with | [_], _ => rfl) (fun _ _ _ _ _ _ us hl => match us, hl with | [_], _ => rfl) fun f cdv A fs s H E hr hgd => ?_
  have nd := sc__law_norm.nd
  exact ss_one (s_ret (f_add (f_mul (f_ix (d_var 0) (d_int)) (f_ix (d_var 0) (d_int))) (f_mul (f_ix (d_var 0) (d_int)) (f_ix (d_var 0) (d_int)))))
theorem ok__law_scaled (T : Tx K mg) : Ok P w K mg base 1 "_law_scaled" ["_law_many", "_law_x"] sm__law_scaled := by
  refine ok_def (N := ["_law_many", "_law_x"]) T.d__law_scaled sc__law_scaled (fun _ _ _ _ _ _ us hl => match us, hl with | [_, _], _ => rfl) (fun _ _ _ _ _ _ us hl => match us, hl with | [_, _], _ => rfl) fun f cdv A fs s H E hr hgd => ?_
  have nd := sc__law_scaled.nd
  exact ss_one (s_ret (d_tup (a_cons (f_mul (d_var 0) (f_ix (d_var 1) (d_int))) (a_cons (f_mul (d_var 0) (f_ix (d_var 1) (d_int))) (a_nil)))))
theorem ok__law_over (T : Tx K mg) : Ok P w K mg base 2 "_law_over" ["_law_x", "_law_y"] sm__law_over := by
  refine ok_def (N := ["_law_x", "_law_y", "_law_size", "_law_top"]) T.d__law_over sc__law_over (fun _ _ _ _ _ _ us hl => match us, hl with | [_, _], _ => rfl) (fun _ _ _ _ _ _ us hl => match us, hl with | [_, _], _ => rfl) fun f cdv A fs s H E hr hgd => ?_
  have nd := sc__law_over.nd
  exact ss_cons (s_par 2 3 rfl nd (a_cons (d_call (ok__law_norm T) (hr.mono (by decide)) hgd (a_cons (d_var 1) (a_nil))) (a_cons (d_call (ok__law_times T) (hr.mono (by decide)) hgd (a_cons (d_var 0) (a_cons (d_call (ok__law_conj T) (hr.mono (by decide)) hgd (a_cons (d_var 1) (a_nil))) (a_nil)))) (a_nil)))) (ss_one (s_ret (d_tup (a_cons (f_div (f_ix (d_var 3) (d_int)) (d_var 2)) (a_cons (f_div (f_ix (d_var 3) (d_int)) (d_var 2)) (a_nil))))))
theorem ok__law_deep (T : Tx K mg) : Ok P w K mg base 2 "_law_deep" ["_law_x", "_law_y"] sm__law_deep := by
  refine ok_def (N := ["_law_x", "_law_y", "_law_size", "_law_top", "_law_many"]) T.d__law_deep sc__law_deep (fun _ _ _ _ _ _ us hl => match us, hl with | [_, _], _ => rfl) (fun _ _ _ _ _ _ us hl => match us, hl with | [_, _], _ => rfl) fun f cdv A fs s H E hr hgd => ?_
  have nd := sc__law_deep.nd
  exact ss_cons (s_while PassesOwn.never (t_fne hr (d_var 1) (d_tup (a_cons (d_int) (a_cons (d_int) (a_nil))))) (ss_cons (s_par 2 3 rfl nd (a_cons (d_call (ok__law_norm T) (hr.mono (by decide)) hgd (a_cons (d_var 1) (a_nil))) (a_cons (d_call (ok__law_times T) (hr.mono (by decide)) hgd (a_cons (d_var 0) (a_cons (d_call (ok__law_conj T) (hr.mono (by decide)) hgd (a_cons (d_var 1) (a_nil))) (a_nil)))) (a_nil)))) (ss_cons (s_set 4 nd (d_tup (a_cons (f_div (f_add (f_mul (d_int) (f_ix (d_var 3) (d_int))) (d_var 2)) (f_mul (d_int) (d_var 2))) (a_cons (f_div (f_add (f_mul (d_int) (f_ix (d_var 3) (d_int))) (d_var 2)) (f_mul (d_int) (d_var 2))) (a_nil))))) (ss_one (s_par 0 1 rfl nd (a_cons (d_var 1) (a_cons (d_call (ok__law_plus T) (hr.mono (by decide)) hgd (a_cons (d_var 0) (a_cons (d_call (ok__law_minus T) (hr.mono (by decide)) hgd (a_cons (d_call (ok__law_times T) (hr.mono (by decide)) hgd (a_cons (d_var 4) (a_cons (d_var 1) (a_nil)))) (a_nil))) (a_nil)))) (a_nil)))))))) (ss_one (s_ret (d_var 0)))
theorem ok__law_quarter (T : Tx K mg) : Ok P w K mg base 1 "_law_quarter" ["_law_x"] sm__law_quarter := by
  refine ok_def (N := ["_law_x", "_law_turn"]) T.d__law_quarter sc__law_quarter (fun _ _ _ _ _ _ us hl => match us, hl with | [_], _ => rfl) (fun _ _ _ _ _ _ us hl => match us, hl with | [_], _ => rfl) fun f cdv A fs s H E hr hgd => ?_
  have nd := sc__law_quarter.nd
  exact ss_cons (s_forI PassesOwn.never rfl (i_range1 T.z_range (a_cons (d_int) (a_nil))) (g_name 1 nd) (ss_cons (s_if ((d_wand (t_fgt (f_ix (d_var 0) (d_int)) (d_int)) (d_w1a (t_fge (f_ix (d_var 0) (d_int)) (d_int)))).pt) (ss_one (s_ret (d_var 0))) (ss_nil)) (ss_one (s_set 0 nd (d_tup (a_cons (f_sub (d_int) (f_ix (d_var 0) (d_int))) (a_cons (f_ix (d_var 0) (d_int)) (a_nil)))))))) (ss_one (s_ret (d_var 0)))
theorem ok__law_chart (T : Tx K mg) : Ok P w K mg base 3 "_law_chart" ["_law_hand", "_law_four_here"] sm__law_chart := by
  refine ok_def (N := ["_law_hand", "_law_four_here", "_law_part", "_law_each", "_law_some", "_law_first", "_law_unit", "_law_a", "_law_b", "_law_c", "_law_d"]) T.d__law_chart sc__law_chart (fun _ _ _ _ _ _ us hl => match us, hl with | [_, _], _ => rfl) (fun _ _ _ _ _ _ us hl => match us, hl with | [_, _], _ => rfl) fun f cdv A fs s H E hr hgd => ?_
  have nd := sc__law_chart.nd
  exact ss_cons (s_set 2 nd (d_tup (a_cons (d_int) (a_cons (d_int) (a_nil))))) (ss_cons (s_forI PassesOwn.never rfl (g_seq (d_var 1)) (g_name 3 nd) (ss_one (s_set 2 nd (d_call (ok__law_deep T) (hr.mono (by decide)) hgd (a_cons (d_var 2) (a_cons (d_var 3) (a_nil))))))) (ss_cons (s_setLc 4 [("_law_each", 3)] rfl nd (g_seq (d_var 1)) (cg_name) (fun _ _ _ _ _ => pg_name (i := 3) nd rfl (by first | exact Or.inl rfl | exact Or.inr rfl)) (fun _ _ _ _ _ => ts_nil) (fun _ _ _ _ _ => d_call (ok__law_over T) (hr.mono (by decide)) hgd (a_cons (d_var 3) (a_cons (d_var 2) (a_nil)))) (ok := blkOk_by (N := ["_law_hand", "_law_four_here", "_law_part", "_law_each", "_law_some", "_law_first", "_law_unit", "_law_a", "_law_b", "_law_c", "_law_d"]) (sc := defScope st__law_chart) (by decide +kernel)) (sw_true rfl rfl rfl (by decide +kernel))) (ss_cons (s_set 5 nd (f_ix (d_lc [("_law_each", 3)] rfl nd (g_seq (d_var 4)) (cg_name) (fun _ _ _ _ _ => pg_name (i := 3) nd rfl (by first | exact Or.inl rfl | exact Or.inr rfl)) (fun _ _ _ _ _ => ts_one (t_fne hr (d_var 3) (d_tup (a_cons (d_int) (a_cons (d_int) (a_nil)))))) (fun _ _ _ _ _ => d_var 3) (ok := blkOk_by (N := ["_law_hand", "_law_four_here", "_law_part", "_law_each", "_law_some", "_law_first", "_law_unit", "_law_a", "_law_b", "_law_c", "_law_d"]) (sc := defScope st__law_chart) (by decide +kernel))) (d_int))) (ss_cons (s_set 6 nd (d_call (ok__law_over T) (hr.mono (by decide)) hgd (a_cons (d_call (ok__law_quarter T) (hr.mono (by decide)) hgd (a_cons (d_var 5) (a_nil))) (a_cons (d_var 5) (a_nil))))) (ss_cons (s_asg (d_lc [("_law_each", 3)] rfl nd (g_seq (d_var 4)) (cg_name) (fun _ _ _ _ _ => pg_name (i := 3) nd rfl (by first | exact Or.inl rfl | exact Or.inr rfl)) (fun _ _ _ _ _ => ts_nil) (fun _ _ _ _ _ => d_call (ok__law_times T) (hr.mono (by decide)) hgd (a_cons (d_var 6) (a_cons (d_var 3) (a_nil)))) (ok := blkOk_by (N := ["_law_hand", "_law_four_here", "_law_part", "_law_each", "_law_some", "_law_first", "_law_unit", "_law_a", "_law_b", "_law_c", "_law_d"]) (sc := defScope st__law_chart) (by decide +kernel))) (g_unp rfl (gs_cons (g_name 7 nd) (gs_cons (g_name 8 nd) (gs_cons (g_name 9 nd) (gs_cons (g_name 10 nd) (gs_nil))))))) (ss_one (s_ret (d_tup (a_cons (d_var 0) (a_cons (d_var 7) (a_cons (d_var 8) (a_cons (d_var 9) (a_cons (d_var 10) (a_nil))))))))))))))
theorem ok__law_spot (T : Tx K mg) : Ok P w K mg base 3 "_law_spot" ["_law_x", "_law_y"] sm__law_spot := by
  refine ok_def (N := ["_law_x", "_law_y", "_law_top"]) T.d__law_spot sc__law_spot (fun _ _ _ _ _ _ us hl => match us, hl with | [_, _], _ => rfl) (fun _ _ _ _ _ _ us hl => match us, hl with | [_, _], _ => rfl) fun f cdv A fs s H E hr hgd => ?_
  have nd := sc__law_spot.nd
  exact ss_cons (s_if (t_feq hr (d_var 1) (d_tup (a_cons (d_int) (a_cons (d_int) (a_nil))))) (ss_one (s_ret (d_tup (a_cons (d_int) (a_cons (d_int) (a_cons (d_int) (a_nil))))))) (ss_nil)) (ss_cons (s_set 2 nd (d_call (ok__law_times T) (hr.mono (by decide)) hgd (a_cons (d_var 0) (a_cons (d_call (ok__law_conj T) (hr.mono (by decide)) hgd (a_cons (d_var 1) (a_nil))) (a_nil))))) (ss_one (s_ret (d_call (ok__law_cut T) (hr.mono (by decide)) hgd (a_cons (d_tup (a_cons (f_ix (d_var 2) (d_int)) (a_cons (f_ix (d_var 2) (d_int)) (a_cons (d_call (ok__law_norm T) (hr.mono (by decide)) hgd (a_cons (d_var 1) (a_nil))) (a_nil))))) (a_nil))))))
theorem ok__law_joined (T : Tx K mg) : Ok P w K mg base 2 "_law_joined" ["_law_chart_here", "_law_other"] sm__law_joined := by
  refine ok_def (N := ["_law_chart_here", "_law_other", "_law_hand", "_law_a", "_law_b", "_law_c", "_law_d", "_law_turn", "_law_e", "_law_f", "_law_g", "_law_h", "_law_one", "_law_two", "_law_three_here", "_law_four_here"]) T.d__law_joined sc__law_joined (fun _ _ _ _ _ _ us hl => match us, hl with | [_, _], _ => rfl) (fun _ _ _ _ _ _ us hl => match us, hl with | [_, _], _ => rfl) fun f cdv A fs s H E hr hgd => ?_
  have nd := sc__law_joined.nd
  exact ss_cons (s_asg (d_var 0) (g_unp rfl (gs_cons (g_name 2 nd) (gs_cons (g_name 3 nd) (gs_cons (g_name 4 nd) (gs_cons (g_name 5 nd) (gs_cons (g_name 6 nd) (gs_nil)))))))) (ss_cons (s_asg (d_var 1) (g_unp rfl (gs_cons (g_name 7 nd) (gs_cons (g_name 8 nd) (gs_cons (g_name 9 nd) (gs_cons (g_name 10 nd) (gs_cons (g_name 11 nd) (gs_nil)))))))) (ss_cons (s_if (t_feq hr (d_var 2) (d_int)) (ss_one (s_asg (d_tup (a_cons (d_call (ok__law_conj T) (hr.mono (by decide)) hgd (a_cons (d_var 8) (a_nil))) (a_cons (d_call (ok__law_conj T) (hr.mono (by decide)) hgd (a_cons (d_var 9) (a_nil))) (a_cons (d_call (ok__law_conj T) (hr.mono (by decide)) hgd (a_cons (d_var 10) (a_nil))) (a_cons (d_call (ok__law_conj T) (hr.mono (by decide)) hgd (a_cons (d_var 11) (a_nil))) (a_nil)))))) (g_unp rfl (gs_cons (g_name 8 nd) (gs_cons (g_name 9 nd) (gs_cons (g_name 10 nd) (gs_cons (g_name 11 nd) (gs_nil)))))))) (ss_nil)) (ss_cons (s_par 12 13 rfl nd (a_cons (d_call (ok__law_plus T) (hr.mono (by decide)) hgd (a_cons (d_call (ok__law_times T) (hr.mono (by decide)) hgd (a_cons (d_var 3) (a_cons (d_var 8) (a_nil)))) (a_cons (d_call (ok__law_times T) (hr.mono (by decide)) hgd (a_cons (d_var 4) (a_cons (d_var 10) (a_nil)))) (a_nil)))) (a_cons (d_call (ok__law_plus T) (hr.mono (by decide)) hgd (a_cons (d_call (ok__law_times T) (hr.mono (by decide)) hgd (a_cons (d_var 3) (a_cons (d_var 9) (a_nil)))) (a_cons (d_call (ok__law_times T) (hr.mono (by decide)) hgd (a_cons (d_var 4) (a_cons (d_var 11) (a_nil)))) (a_nil)))) (a_nil)))) (ss_cons (s_par 14 15 rfl nd (a_cons (d_call (ok__law_plus T) (hr.mono (by decide)) hgd (a_cons (d_call (ok__law_times T) (hr.mono (by decide)) hgd (a_cons (d_var 5) (a_cons (d_var 8) (a_nil)))) (a_cons (d_call (ok__law_times T) (hr.mono (by decide)) hgd (a_cons (d_var 6) (a_cons (d_var 10) (a_nil)))) (a_nil)))) (a_cons (d_call (ok__law_plus T) (hr.mono (by decide)) hgd (a_cons (d_call (ok__law_times T) (hr.mono (by decide)) hgd (a_cons (d_var 5) (a_cons (d_var 9) (a_nil)))) (a_cons (d_call (ok__law_times T) (hr.mono (by decide)) hgd (a_cons (d_var 6) (a_cons (d_var 11) (a_nil)))) (a_nil)))) (a_nil)))) (ss_one (s_ret (d_tup (a_cons (f_sub (f_add (d_var 2) (d_var 7)) (f_mul (f_mul (d_int) (d_var 2)) (d_var 7))) (a_cons (d_var 12) (a_cons (d_var 13) (a_cons (d_var 14) (a_cons (d_var 15) (a_nil)))))))))))))
theorem ok__law_after (T : Tx K mg) : Ok P w K mg base 4 "_law_after" ["_law_chart_here", "_law_other"] sm__law_after := by
  refine ok_def (N := ["_law_chart_here", "_law_other", "_law_hand", "_law_a", "_law_b", "_law_c", "_law_d"]) T.d__law_after sc__law_after (fun _ _ _ _ _ _ us hl => match us, hl with | [_, _], _ => rfl) (fun _ _ _ _ _ _ us hl => match us, hl with | [_, _], _ => rfl) fun f cdv A fs s H E hr hgd => ?_
  have nd := sc__law_after.nd
  exact ss_cons (s_asg (d_call (ok__law_joined T) (hr.mono (by decide)) hgd (a_cons (d_var 0) (a_cons (d_var 1) (a_nil)))) (g_unp rfl (gs_cons (g_name 2 nd) (gs_cons (g_name 3 nd) (gs_cons (g_name 4 nd) (gs_cons (g_name 5 nd) (gs_cons (g_name 6 nd) (gs_nil)))))))) (ss_one (s_ret (d_call (ok__law_chart T) (hr.mono (by decide)) hgd (a_cons (d_var 2) (a_cons (d_lst (a_cons (d_var 3) (a_cons (d_var 4) (a_cons (d_var 5) (a_cons (d_var 6) (a_nil)))))) (a_nil))))))
theorem ok__law_back (T : Tx K mg) : Ok P w K mg base 2 "_law_back" ["_law_chart_here"] sm__law_back := by
  refine ok_def (N := ["_law_chart_here", "_law_hand", "_law_a", "_law_b", "_law_c", "_law_d"]) T.d__law_back sc__law_back (fun _ _ _ _ _ _ us hl => match us, hl with | [_], _ => rfl) (fun _ _ _ _ _ _ us hl => match us, hl with | [_], _ => rfl) fun f cdv A fs s H E hr hgd => ?_
  have nd := sc__law_back.nd
  exact ss_cons (s_asg (d_var 0) (g_unp rfl (gs_cons (g_name 1 nd) (gs_cons (g_name 2 nd) (gs_cons (g_name 3 nd) (gs_cons (g_name 4 nd) (gs_cons (g_name 5 nd) (gs_nil)))))))) (ss_cons (s_if (t_feq hr (d_var 1) (d_int)) (ss_one (s_asg (d_tup (a_cons (d_call (ok__law_conj T) (hr.mono (by decide)) hgd (a_cons (d_var 2) (a_nil))) (a_cons (d_call (ok__law_conj T) (hr.mono (by decide)) hgd (a_cons (d_var 3) (a_nil))) (a_cons (d_call (ok__law_conj T) (hr.mono (by decide)) hgd (a_cons (d_var 4) (a_nil))) (a_cons (d_call (ok__law_conj T) (hr.mono (by decide)) hgd (a_cons (d_var 5) (a_nil))) (a_nil)))))) (g_unp rfl (gs_cons (g_name 2 nd) (gs_cons (g_name 3 nd) (gs_cons (g_name 4 nd) (gs_cons (g_name 5 nd) (gs_nil)))))))) (ss_nil)) (ss_one (s_ret (d_tup (a_cons (d_var 1) (a_cons (d_var 5) (a_cons (d_call (ok__law_minus T) (hr.mono (by decide)) hgd (a_cons (d_var 3) (a_nil))) (a_cons (d_call (ok__law_minus T) (hr.mono (by decide)) hgd (a_cons (d_var 4) (a_nil))) (a_cons (d_var 2) (a_nil))))))))))
theorem ok__law_mirror (T : Tx K mg) : Ok P w K mg base 4 "_law_mirror" ["_law_row"] sm__law_mirror := by
  refine ok_def (N := ["_law_row", "_law_q", "_law_l", "_law_m", "_law_k"]) T.d__law_mirror sc__law_mirror (fun _ _ _ _ _ _ us hl => match us, hl with | [_], _ => rfl) (fun _ _ _ _ _ _ us hl => match us, hl with | [_], _ => rfl) fun f cdv A fs s H E hr hgd => ?_
  have nd := sc__law_mirror.nd
  exact ss_cons (s_asg (d_var 0) (g_unp rfl (gs_cons (g_name 1 nd) (gs_cons (g_name 2 nd) (gs_cons (g_name 3 nd) (gs_cons (g_name 4 nd) (gs_nil))))))) (ss_one (s_ret (d_call (ok__law_chart T) (hr.mono (by decide)) hgd (a_cons (d_int) (a_cons (d_lst (a_cons (d_tup (a_cons (f_sub (d_int) (d_var 2)) (a_cons (f_sub (d_int) (d_var 3)) (a_nil)))) (a_cons (d_tup (a_cons (f_sub (d_int) (f_mul (d_int) (d_var 4))) (a_cons (d_int) (a_nil)))) (a_cons (d_tup (a_cons (f_mul (d_int) (d_var 1)) (a_cons (d_int) (a_nil)))) (a_cons (d_tup (a_cons (d_var 2) (a_cons (f_sub (d_int) (d_var 3)) (a_nil)))) (a_nil)))))) (a_nil))))))
theorem ok__law_place (T : Tx K mg) : Ok P w K mg base 3 "_law_place" ["_law_well_here", "_law_wide"] sm__law_place := by
  refine ok_def (N := ["_law_well_here", "_law_wide", "_law_p", "_law_s"]) T.d__law_place sc__law_place (fun _ _ _ _ _ _ us hl => match us, hl with | [_, _], _ => rfl) (fun _ _ _ _ _ _ us hl => match us, hl with | [_, _], _ => rfl) fun f cdv A fs s H E hr hgd => ?_
  have nd := sc__law_place.nd
  exact ss_cons (s_if (t_feq hr (d_call (ok__law_dip T) (hr.mono (by decide)) hgd (a_tank 0 (a_cons (d_int) (a_nil)))) (d_int)) (ss_one (s_ret (d_tup (a_cons (d_int) (a_cons (d_int) (a_cons (d_int) (a_nil))))))) (ss_nil)) (ss_cons (s_par 2 3 rfl nd (a_cons (d_call (ok__law_whole T) (hr.mono (by decide)) hgd (a_tank 0 (a_cons (d_var 1) (a_nil)))) (a_cons (d_call (ok__law_whole T) (hr.mono (by decide)) hgd (a_tank 0 (a_cons (d_var 1) (a_nil)))) (a_nil)))) (ss_one (s_ret (d_call (ok__law_cut T) (hr.mono (by decide)) hgd (a_cons (d_tup (a_cons (d_var 2) (a_cons (d_var 3) (a_cons (f_add (d_int) (d_call (ok__law_dip T) (hr.mono (by decide)) hgd (a_tank 0 (a_cons (g_min2 rfl T.z_min (a_cons (d_var 1) (a_cons (d_int) (a_nil)))) (a_nil))))) (a_nil))))) (a_nil))))))
theorem ok__law_unlike (T : Tx K mg) : Ok P w K mg base 4 "_law_unlike" ["_law_well_here", "_law_many", "_law_wide"] sm__law_unlike := by
  refine ok_def (N := ["_law_well_here", "_law_many", "_law_wide", "_law_found", "_law_turn", "_law_p", "_law_s", "_law_r", "_law_some", "_law_step", "_law_each"]) T.d__law_unlike sc__law_unlike (fun _ _ _ _ _ _ us hl => match us, hl with | [_, _, _], _ => rfl) (fun _ _ _ _ _ _ us hl => match us, hl with | [_, _, _], _ => rfl) fun f cdv A fs s H E hr hgd => ?_
  have nd := sc__law_unlike.nd
  exact ss_cons (s_own 3 nd (a_nil)) (ss_cons (s_forI PassesOwn.never rfl (i_range1 T.z_range (a_cons (d_var 1) (a_nil))) (g_name 4 nd) (ss_cons (s_asg (d_call (ok__law_place T) (hr.mono (by decide)) hgd (a_tank 0 (a_cons (d_var 2) (a_nil)))) (g_unp rfl (gs_cons (g_name 5 nd) (gs_cons (g_name 6 nd) (gs_cons (g_name 7 nd) (gs_nil)))))) (ss_cons (s_setLc 8 [("_law_step", 9)] rfl nd (i_range1 T.z_range (a_cons (f_add (d_var 4) (d_int)) (a_nil))) (cg_name) (fun _ _ _ _ _ => pg_name (i := 9) nd rfl (by first | exact Or.inl rfl | exact Or.inr rfl)) (fun _ _ _ _ _ => ts_nil) (fun _ _ _ _ _ => d_if (t_fgt (d_var 7) (d_int)) (d_tup (a_cons (f_add (d_var 5) (f_mul (d_var 9) (d_var 7))) (a_cons (d_var 6) (a_cons (d_var 7) (a_nil))))) (d_tup (a_cons (d_var 5) (a_cons (d_var 6) (a_cons (d_var 7) (a_nil)))))) (ok := blkOk_by (N := ["_law_well_here", "_law_many", "_law_wide", "_law_found", "_law_turn", "_law_p", "_law_s", "_law_r", "_law_some", "_law_step", "_law_each"]) (sc := defScope st__law_unlike) (by decide +kernel)) (sw_true rfl rfl rfl (by decide +kernel))) (ss_cons (s_if (t_feq hr (d_var 7) (d_int)) (ss_one (s_set 8 nd (f_add (d_var 8) (d_lc [("_law_step", 9)] rfl nd (i_range1 T.z_range (a_cons (d_var 4) (a_nil))) (cg_name) (fun _ _ _ _ _ => pg_name (i := 9) nd rfl (by first | exact Or.inl rfl | exact Or.inr rfl)) (fun _ _ _ _ _ => ts_nil) (fun _ _ _ _ _ => d_tup (a_cons (d_var 9) (a_cons (d_int) (a_cons (d_int) (a_nil))))) (ok := blkOk_by (N := ["_law_well_here", "_law_many", "_law_wide", "_law_found", "_law_turn", "_law_p", "_law_s", "_law_r", "_law_some", "_law_step", "_law_each"]) (sc := defScope st__law_unlike) (by decide +kernel)))))) (ss_nil)) (ss_one (s_app 3 (d_view 3 (f_ix (d_lc [("_law_each", 10)] rfl nd (g_seq (d_var 8)) (cg_name) (fun _ _ _ _ _ => pg_name (i := 10) nd rfl (by first | exact Or.inl rfl | exact Or.inr rfl)) (fun _ _ _ _ _ => ts_one (t_view 3 (t_fniS hr (d_var 10) (d_var 3)))) (fun _ _ _ _ _ => d_var 10) (ok := blkOk_by (N := ["_law_well_here", "_law_many", "_law_wide", "_law_found", "_law_turn", "_law_p", "_law_s", "_law_r", "_law_some", "_law_step", "_law_each"]) (sc := defScope st__law_unlike) (by decide +kernel))) (d_int))))))))) (ss_one (s_frq 3 (s_ret (d_var 3)))))
theorem ok__law_round (T : Tx K mg) : Ok P w K mg base 4 "_law_round" ["_law_well_here", "_law_wide"] sm__law_round := by
  refine ok_def (N := ["_law_well_here", "_law_wide", "_law_q", "_law_l", "_law_m", "_law_k", "_law_turn"]) T.d__law_round sc__law_round (fun _ _ _ _ _ _ us hl => match us, hl with | [_, _], _ => rfl) (fun _ _ _ _ _ _ us hl => match us, hl with | [_, _], _ => rfl) fun f cdv A fs s H E hr hgd => ?_
  have nd := sc__law_round.nd
  exact ss_cons (s_asg (d_lc [("_law_turn", 6)] rfl nd (i_range1 T.z_range (a_cons (d_int) (a_nil))) (cg_name) (fun _ _ _ _ _ => pg_name (i := 6) nd rfl (by first | exact Or.inl rfl | exact Or.inr rfl)) (fun _ _ _ _ _ => ts_nil) (fun _ _ _ _ _ => d_call (ok__law_whole T) (hr.mono (by decide)) hgd (a_tank 0 (a_cons (d_var 1) (a_nil)))) (ok := blkOk_by (N := ["_law_well_here", "_law_wide", "_law_q", "_law_l", "_law_m", "_law_k", "_law_turn"]) (sc := defScope st__law_round) (by decide +kernel))) (g_unp rfl (gs_cons (g_name 2 nd) (gs_cons (g_name 3 nd) (gs_cons (g_name 4 nd) (gs_cons (g_name 5 nd) (gs_nil))))))) (ss_cons (s_if (t_feq hr (d_call (ok__law_dip T) (hr.mono (by decide)) hgd (a_tank 0 (a_cons (d_int) (a_nil)))) (d_int)) (ss_one (s_set 2 nd (d_int))) (ss_nil)) (ss_cons (s_if (t_feq hr (d_tup (a_cons (d_var 2) (a_cons (d_var 3) (a_cons (d_var 4) (a_nil))))) (d_tup (a_cons (d_int) (a_cons (d_int) (a_cons (d_int) (a_nil)))))) (ss_one (s_set 3 nd (d_int))) (ss_nil)) (ss_cons (s_if (t_fle (f_add (f_mul (d_var 3) (d_var 3)) (f_mul (d_var 4) (d_var 4))) (f_mul (f_mul (d_int) (d_var 2)) (d_var 5))) (ss_one (s_set 5 nd (d_if (t_fne hr (d_var 5) (d_int)) (f_sub (d_int) (d_var 5)) (f_sub (d_int) (d_var 2))))) (ss_nil)) (ss_one (s_ret (d_call (ok__law_form T) (hr.mono (by decide)) hgd (a_cons (d_tup (a_cons (d_var 2) (a_cons (d_var 3) (a_cons (d_var 4) (a_cons (d_var 5) (a_nil)))))) (a_nil))))))))
theorem ok__law_nonzero (T : Tx K mg) : Ok P w K mg base 3 "_law_nonzero" ["_law_well_here", "_law_wide"] sm__law_nonzero := by
  refine ok_def (N := ["_law_well_here", "_law_wide", "_law_found"]) T.d__law_nonzero sc__law_nonzero (fun _ _ _ _ _ _ us hl => match us, hl with | [_, _], _ => rfl) (fun _ _ _ _ _ _ us hl => match us, hl with | [_, _], _ => rfl) fun f cdv A fs s H E hr hgd => ?_
  have nd := sc__law_nonzero.nd
  exact ss_cons (s_set 2 nd (d_tup (a_cons (d_call (ok__law_whole T) (hr.mono (by decide)) hgd (a_tank 0 (a_cons (d_var 1) (a_nil)))) (a_cons (d_call (ok__law_whole T) (hr.mono (by decide)) hgd (a_tank 0 (a_cons (d_var 1) (a_nil)))) (a_nil))))) (ss_one (s_ret (d_if (t_fne hr (d_var 2) (d_tup (a_cons (d_int) (a_cons (d_int) (a_nil))))) (d_var 2) (d_tup (a_cons (f_sub (d_int) (d_var 1)) (a_cons (d_int) (a_nil)))))))
theorem ok__law_four (T : Tx K mg) : Ok P w K mg base 3 "_law_four" ["_law_well_here", "_law_wide"] sm__law_four := by
  refine ok_def (N := ["_law_well_here", "_law_wide", "_law_a", "_law_b", "_law_c", "_law_d", "_law_turn"]) T.d__law_four sc__law_four (fun _ _ _ _ _ _ us hl => match us, hl with | [_, _], _ => rfl) (fun _ _ _ _ _ _ us hl => match us, hl with | [_, _], _ => rfl) fun f cdv A fs s H E hr hgd => ?_
  have nd := sc__law_four.nd
  exact ss_cons (s_asg (d_lc [("_law_turn", 6)] rfl nd (i_range1 T.z_range (a_cons (d_int) (a_nil))) (cg_name) (fun _ _ _ _ _ => pg_name (i := 6) nd rfl (by first | exact Or.inl rfl | exact Or.inr rfl)) (fun _ _ _ _ _ => ts_nil) (fun _ _ _ _ _ => d_tup (a_cons (d_call (ok__law_whole T) (hr.mono (by decide)) hgd (a_tank 0 (a_cons (d_var 1) (a_nil)))) (a_cons (d_call (ok__law_whole T) (hr.mono (by decide)) hgd (a_tank 0 (a_cons (d_var 1) (a_nil)))) (a_nil)))) (ok := blkOk_by (N := ["_law_well_here", "_law_wide", "_law_a", "_law_b", "_law_c", "_law_d", "_law_turn"]) (sc := defScope st__law_four) (by decide +kernel))) (g_unp rfl (gs_cons (g_name 2 nd) (gs_cons (g_name 3 nd) (gs_cons (g_name 4 nd) (gs_cons (g_name 5 nd) (gs_nil))))))) (ss_cons (s_if (t_feq hr (d_call (ok__law_times T) (hr.mono (by decide)) hgd (a_cons (d_var 2) (a_cons (d_var 5) (a_nil)))) (d_call (ok__law_times T) (hr.mono (by decide)) hgd (a_cons (d_var 3) (a_cons (d_var 4) (a_nil))))) (ss_one (s_if (t_feq hr (d_var 2) (d_tup (a_cons (d_int) (a_cons (d_int) (a_nil))))) (ss_one (s_asg (d_tup (a_cons (d_tup (a_cons (d_int) (a_cons (d_int) (a_nil)))) (a_cons (d_tup (a_cons (d_int) (a_cons (d_int) (a_nil)))) (a_cons (d_tup (a_cons (d_int) (a_cons (d_int) (a_nil)))) (a_nil))))) (g_unp rfl (gs_cons (g_name 2 nd) (gs_cons (g_name 4 nd) (gs_cons (g_name 5 nd) (gs_nil))))))) (ss_one (s_set 5 nd (d_tup (a_cons (f_add (f_ix (d_var 5) (d_int)) (d_int)) (a_cons (f_ix (d_var 5) (d_int)) (a_nil)))))))) (ss_nil)) (ss_one (s_ret (d_lst (a_cons (d_var 2) (a_cons (d_var 3) (a_cons (d_var 4) (a_cons (d_var 5) (a_nil)))))))))
theorem ok__law_map (T : Tx K mg) : Ok P w K mg base 4 "_law_map" ["_law_well_here", "_law_wide"] sm__law_map := by
  refine ok_def (N := ["_law_well_here", "_law_wide", "_law_hand"]) T.d__law_map sc__law_map (fun _ _ _ _ _ _ us hl => match us, hl with | [_, _], _ => rfl) (fun _ _ _ _ _ _ us hl => match us, hl with | [_, _], _ => rfl) fun f cdv A fs s H E hr hgd => ?_
  have nd := sc__law_map.nd
  exact ss_cons (s_set 2 nd (d_call (ok__law_dip T) (hr.mono (by decide)) hgd (a_tank 0 (a_cons (d_int) (a_nil))))) (ss_one (s_ret (d_call (ok__law_chart T) (hr.mono (by decide)) hgd (a_cons (d_var 2) (a_cons (d_call (ok__law_four T) (hr.mono (by decide)) hgd (a_tank 0 (a_cons (d_var 1) (a_nil)))) (a_nil))))))
theorem ok__law_three (T : Tx K mg) : Ok P w K mg base 2 "_law_three" ["_law_u", "_law_v", "_law_w"] sm__law_three := by
  refine ok_def (N := ["_law_u", "_law_v", "_law_w", "_law_x", "_law_y", "_law_z", "_law_one", "_law_two"]) T.d__law_three sc__law_three (fun _ _ _ _ _ _ us hl => match us, hl with | [_, _, _], _ => rfl) (fun _ _ _ _ _ _ us hl => match us, hl with | [_, _, _], _ => rfl) fun f cdv A fs s H E hr hgd => ?_
  have nd := sc__law_three.nd
  exact ss_cons (s_par3 3 4 5 rfl nd (a_cons (d_tup (a_cons (f_ix (d_var 0) (d_int)) (a_cons (f_ix (d_var 0) (d_int)) (a_nil)))) (a_cons (d_tup (a_cons (f_ix (d_var 1) (d_int)) (a_cons (f_ix (d_var 1) (d_int)) (a_nil)))) (a_cons (d_tup (a_cons (f_ix (d_var 2) (d_int)) (a_cons (f_ix (d_var 2) (d_int)) (a_nil)))) (a_nil))))) (ss_cons (s_set 6 nd (d_call (ok__law_plus T) (hr.mono (by decide)) hgd (a_cons (d_call (ok__law_scaled T) (hr.mono (by decide)) hgd (a_cons (f_ix (d_var 1) (d_int)) (a_cons (d_var 5) (a_nil)))) (a_cons (d_call (ok__law_minus T) (hr.mono (by decide)) hgd (a_cons (d_call (ok__law_scaled T) (hr.mono (by decide)) hgd (a_cons (f_ix (d_var 2) (d_int)) (a_cons (d_var 4) (a_nil)))) (a_nil))) (a_nil))))) (ss_cons (s_set 7 nd (d_call (ok__law_plus T) (hr.mono (by decide)) hgd (a_cons (d_call (ok__law_scaled T) (hr.mono (by decide)) hgd (a_cons (f_ix (d_var 0) (d_int)) (a_cons (d_var 5) (a_nil)))) (a_cons (d_call (ok__law_minus T) (hr.mono (by decide)) hgd (a_cons (d_call (ok__law_scaled T) (hr.mono (by decide)) hgd (a_cons (f_ix (d_var 2) (d_int)) (a_cons (d_var 3) (a_nil)))) (a_nil))) (a_nil))))) (ss_one (s_ret (d_tup (a_cons (d_int) (a_cons (d_call (ok__law_scaled T) (hr.mono (by decide)) hgd (a_cons (f_ix (d_var 0) (d_int)) (a_cons (d_var 6) (a_nil)))) (a_cons (d_call (ok__law_minus T) (hr.mono (by decide)) hgd (a_cons (d_call (ok__law_times T) (hr.mono (by decide)) hgd (a_cons (d_var 3) (a_cons (d_var 6) (a_nil)))) (a_nil))) (a_cons (d_call (ok__law_scaled T) (hr.mono (by decide)) hgd (a_cons (f_ix (d_var 1) (d_int)) (a_cons (d_var 7) (a_nil)))) (a_cons (d_call (ok__law_minus T) (hr.mono (by decide)) hgd (a_cons (d_call (ok__law_times T) (hr.mono (by decide)) hgd (a_cons (d_var 4) (a_cons (d_var 7) (a_nil)))) (a_nil))) (a_nil)))))))))))
theorem ok__law_complex_root (T : Tx K mg) : Ok P w K mg base 2 "_law_complex_root" ["_law_number"] sm__law_complex_root := by
  refine ok_def (N := ["_law_number", "_law_size", "_law_one", "_law_two", "_law_found"]) T.d__law_complex_root sc__law_complex_root (fun _ _ _ _ _ _ us hl => match us, hl with | [_], _ => rfl) (fun _ _ _ _ _ _ us hl => match us, hl with | [_], _ => rfl) fun f cdv A fs s H E hr hgd => ?_
  have nd := sc__law_complex_root.nd
  exact ss_cons (s_set 1 nd (d_call (ok__law_root T) (hr.mono (by decide)) hgd (a_cons (d_call (ok__law_norm T) (hr.mono (by decide)) hgd (a_cons (d_var 0) (a_nil))) (a_nil)))) (ss_cons (s_par 2 3 rfl nd (a_cons (d_call (ok__law_root T) (hr.mono (by decide)) hgd (a_cons (f_div (f_add (d_var 1) (f_ix (d_var 0) (d_int))) (d_int)) (a_nil))) (a_cons (d_call (ok__law_root T) (hr.mono (by decide)) hgd (a_cons (f_div (f_sub (d_var 1) (f_ix (d_var 0) (d_int))) (d_int)) (a_nil))) (a_nil)))) (ss_cons (s_forI PassesOwn.never rfl (g_seq (d_lst (a_cons (d_tup (a_cons (d_var 2) (a_cons (d_var 3) (a_nil)))) (a_cons (d_tup (a_cons (d_var 2) (a_cons (f_sub (d_int) (d_var 3)) (a_nil)))) (a_nil))))) (g_name 4 nd) (ss_one (s_if (t_feq hr (d_call (ok__law_times T) (hr.mono (by decide)) hgd (a_cons (d_var 4) (a_cons (d_var 4) (a_nil)))) (d_var 0)) (ss_one (s_ret (d_var 4))) (ss_nil)))) (ss_one (s_ret (d_non)))))
theorem ok__law_inner (T : Tx K mg) : Ok P w K mg base 4 "_law_inner" ["_law_well_here", "_law_way", "_law_few", "_law_wide"] sm__law_inner := by
  refine ok_def (N := ["_law_well_here", "_law_way", "_law_few", "_law_wide", "_law_other", "_law_one", "_law_none", "_law_turn"]) T.d__law_inner sc__law_inner (fun _ _ _ _ _ _ us hl => match us, hl with | [_, _, _, _], _ => rfl) (fun _ _ _ _ _ _ us hl => match us, hl with | [_, _, _, _], _ => rfl) fun f cdv A fs s H E hr hgd => ?_
  have nd := sc__law_inner.nd
  exact ss_cons (s_par3 4 5 6 rfl nd (a_cons (d_call (ok__law_nonzero T) (hr.mono (by decide)) hgd (a_tank 0 (a_cons (d_var 3) (a_nil)))) (a_cons (d_tup (a_cons (d_int) (a_cons (d_int) (a_nil)))) (a_cons (d_tup (a_cons (d_int) (a_cons (d_int) (a_nil)))) (a_nil))))) (ss_cons (s_if (t_feq hr (d_var 1) (d_int)) (ss_one (s_ret (d_tup (a_cons (d_int) (a_cons (d_if (t_fne hr (d_var 4) (d_var 2)) (d_var 4) (d_call (ok__law_plus T) (hr.mono (by decide)) hgd (a_cons (d_var 2) (a_cons (d_var 2) (a_nil))))) (a_cons (d_var 6) (a_cons (d_var 6) (a_cons (d_var 2) (a_nil))))))))) (ss_nil)) (ss_cons (s_if (t_feq hr (d_var 1) (d_int)) (ss_one (s_ret (d_tup (a_cons (d_int) (a_cons (d_var 5) (a_cons (d_var 4) (a_cons (d_var 6) (a_cons (d_var 5) (a_nil))))))))) (ss_nil)) (ss_cons (s_if (t_feq hr (d_var 1) (d_int)) (ss_one (s_ret (d_tup (a_cons (d_int) (a_cons (d_if (t_fne hr (d_call (ok__law_norm T) (hr.mono (by decide)) hgd (a_cons (d_var 4) (a_nil))) (d_call (ok__law_norm T) (hr.mono (by decide)) hgd (a_cons (d_var 2) (a_nil)))) (d_var 4) (d_call (ok__law_plus T) (hr.mono (by decide)) hgd (a_cons (d_var 4) (a_cons (d_var 4) (a_nil))))) (a_cons (d_var 6) (a_cons (d_var 6) (a_cons (d_var 2) (a_nil))))))))) (ss_nil)) (ss_cons (s_if (t_feq hr (d_var 1) (d_int)) (ss_cons (s_set 7 nd (d_if ((d_wor (t_fne hr (f_ix (d_var 4) (d_int)) (d_int)) (d_w1o (t_flt (f_ix (d_var 4) (d_int)) (d_int)))).pt) (d_var 4) (d_call (ok__law_minus T) (hr.mono (by decide)) hgd (a_cons (d_var 4) (a_nil))))) (ss_one (s_ret (d_tup (a_cons (d_int) (a_cons (d_var 6) (a_cons (d_call (ok__law_times T) (hr.mono (by decide)) hgd (a_cons (d_var 2) (a_cons (d_var 7) (a_nil)))) (a_cons (d_var 2) (a_cons (d_var 6) (a_nil)))))))))) (ss_nil)) (ss_one (s_ret (d_tup (a_cons (d_int) (a_cons (d_var 2) (a_cons (d_tup (a_cons (d_if (t_fne hr (f_ix (d_var 4) (d_int)) (d_int)) (f_ix (d_var 4) (d_int)) (d_int)) (a_cons (f_ix (d_var 4) (d_int)) (a_nil)))) (a_cons (d_var 6) (a_cons (d_call (ok__law_conj T) (hr.mono (by decide)) hgd (a_cons (d_var 2) (a_nil))) (a_nil)))))))))))))
theorem ok__law_any (T : Tx K mg) : Ok P w K mg base 4 "_law_any" ["_law_well_here", "_law_wide"] sm__law_any := by
  refine ok_def (N := ["_law_well_here", "_law_wide", "_law_a", "_law_b", "_law_c", "_law_d", "_law_chart_here", "_law_gap", "_law_spread", "_law_root_here", "_law_found", "_law_each"]) T.d__law_any sc__law_any (fun _ _ _ _ _ _ us hl => match us, hl with | [_, _], _ => rfl) (fun _ _ _ _ _ _ us hl => match us, hl with | [_, _], _ => rfl) fun f cdv A fs s H E hr hgd => ?_
  have nd := sc__law_any.nd
  exact ss_cons (s_asg (d_call (ok__law_four T) (hr.mono (by decide)) hgd (a_tank 0 (a_cons (d_var 1) (a_nil)))) (g_unp rfl (gs_cons (g_name 2 nd) (gs_cons (g_name 3 nd) (gs_cons (g_name 4 nd) (gs_cons (g_name 5 nd) (gs_nil))))))) (ss_cons (s_asg (d_tup (a_cons (d_call (ok__law_chart T) (hr.mono (by decide)) hgd (a_cons (d_int) (a_cons (d_lst (a_cons (d_var 2) (a_cons (d_var 3) (a_cons (d_var 4) (a_cons (d_var 5) (a_nil)))))) (a_nil)))) (a_cons (d_call (ok__law_plus T) (hr.mono (by decide)) hgd (a_cons (d_var 2) (a_cons (d_call (ok__law_minus T) (hr.mono (by decide)) hgd (a_cons (d_var 5) (a_nil))) (a_nil)))) (a_nil)))) (g_unp rfl (gs_cons (g_name 6 nd) (gs_cons (g_name 7 nd) (gs_nil))))) (ss_cons (s_if (t_feq hr (d_tup (a_cons (d_var 3) (a_cons (d_var 4) (a_cons (d_var 7) (a_nil))))) (d_tup (a_cons (d_tup (a_cons (d_int) (a_cons (d_int) (a_nil)))) (a_cons (d_tup (a_cons (d_int) (a_cons (d_int) (a_nil)))) (a_cons (d_tup (a_cons (d_int) (a_cons (d_int) (a_nil)))) (a_nil)))))) (ss_one (s_ret (d_lst (a_cons (d_var 6) (a_cons (d_tup (a_cons (d_str) (a_nil))) (a_nil)))))) (ss_nil)) (ss_cons (s_set 8 nd (d_call (ok__law_plus T) (hr.mono (by decide)) hgd (a_cons (d_call (ok__law_times T) (hr.mono (by decide)) hgd (a_cons (d_var 7) (a_cons (d_var 7) (a_nil)))) (a_cons (d_call (ok__law_scaled T) (hr.mono (by decide)) hgd (a_cons (d_int) (a_cons (d_call (ok__law_times T) (hr.mono (by decide)) hgd (a_cons (d_var 3) (a_cons (d_var 4) (a_nil)))) (a_nil)))) (a_nil))))) (ss_cons (s_par 9 10 rfl nd (a_cons (d_call (ok__law_complex_root T) (hr.mono (by decide)) hgd (a_cons (d_var 8) (a_nil))) (a_cons (d_lst (a_nil)) (a_nil)))) (ss_cons (s_if (t_feq hr (d_var 4) (d_tup (a_cons (d_int) (a_cons (d_int) (a_nil))))) (ss_one (s_set 10 nd (f_add (d_lst (a_cons (d_tup (a_cons (d_int) (a_cons (d_int) (a_cons (d_int) (a_nil))))) (a_nil))) (d_if (t_fne hr (d_var 7) (d_tup (a_cons (d_int) (a_cons (d_int) (a_nil))))) (d_lst (a_cons (d_call (ok__law_spot T) (hr.mono (by decide)) hgd (a_cons (d_var 3) (a_cons (d_call (ok__law_minus T) (hr.mono (by decide)) hgd (a_cons (d_var 7) (a_nil))) (a_nil)))) (a_nil))) (d_lst (a_nil)))))) (ss_one (s_if (t_notN (d_var 9)) (ss_one (s_setLc 10 [("_law_each", 11)] rfl nd (g_seq (d_tup (a_cons (d_var 9) (a_cons (d_call (ok__law_minus T) (hr.mono (by decide)) hgd (a_cons (d_var 9) (a_nil))) (a_nil))))) (cg_name) (fun _ _ _ _ _ => pg_name (i := 11) nd rfl (by first | exact Or.inl rfl | exact Or.inr rfl)) (fun _ _ _ _ _ => ts_nil) (fun _ _ _ _ _ => d_call (ok__law_spot T) (hr.mono (by decide)) hgd (a_cons (d_call (ok__law_plus T) (hr.mono (by decide)) hgd (a_cons (d_var 7) (a_cons (d_var 11) (a_nil)))) (a_cons (d_call (ok__law_scaled T) (hr.mono (by decide)) hgd (a_cons (d_int) (a_cons (d_var 4) (a_nil)))) (a_nil)))) (ok := blkOk_by (N := ["_law_well_here", "_law_wide", "_law_a", "_law_b", "_law_c", "_law_d", "_law_chart_here", "_law_gap", "_law_spread", "_law_root_here", "_law_found", "_law_each"]) (sc := defScope st__law_any) (by decide +kernel)) (sw_true rfl rfl rfl (by decide +kernel)))) (ss_nil)))) (ss_one (s_ret (d_lst (a_cons (d_var 6) (a_cons (d_tup (a_cons (d_str) (a_cons (d_if (t_feq hr (d_var 8) (d_tup (a_cons (d_int) (a_cons (d_int) (a_nil))))) (d_int) (d_int)) (a_cons (g_totup T.z_tuple (a_cons (g_sortS rfl (room66 hr) T.z_sorted T.z_set (a_cons (d_var 10) (a_nil))) (a_nil))) (a_nil))))) (a_nil)))))))))))
theorem ok__law_built (T : Tx K mg) : Ok P w K mg base 5 "_law_built" ["_law_well_here"] sm__law_built := by
  refine ok_def (N := ["_law_well_here", "_law_wide", "_law_way", "_law_row", "_law_few", "_law_inner_here", "_law_u", "_law_v", "_law_w", "_law_lead", "_law_chart_here"]) T.d__law_built sc__law_built (fun _ _ _ _ _ _ us hl => match us, hl with | [_], _ => rfl) (fun _ _ _ _ _ _ us hl => match us, hl with | [_], _ => rfl) fun f cdv A fs s H E hr hgd => ?_
  have nd := sc__law_built.nd
  exact ss_cons (s_par 1 2 rfl nd (a_cons (d_call (ok__law_of T) (hr.mono (by decide)) hgd (a_tank 0 (a_cons (d_tup (a_cons (d_int) (a_cons (d_int) (a_cons (d_int) (a_cons (d_int) (a_cons (d_int) (a_cons (d_int) (a_cons (d_int) (a_nil))))))))) (a_nil)))) (a_cons (d_call (ok__law_dip T) (hr.mono (by decide)) hgd (a_tank 0 (a_cons (d_int) (a_nil)))) (a_nil)))) (ss_cons (s_if (t_feq hr (d_var 2) (d_int)) (ss_one (s_ret (d_lst (a_cons (d_tup (a_cons (d_int) (a_cons (d_tup (a_cons (d_int) (a_cons (d_int) (a_nil)))) (a_cons (d_tup (a_cons (d_int) (a_cons (d_int) (a_nil)))) (a_cons (d_tup (a_cons (d_int) (a_cons (d_int) (a_nil)))) (a_cons (d_tup (a_cons (d_int) (a_cons (d_int) (a_nil)))) (a_nil))))))) (a_cons (d_tup (a_cons (d_str) (a_nil))) (a_nil)))))) (ss_nil)) (ss_cons (s_if (t_feq hr (d_var 2) (d_int)) (ss_cons (s_set 3 nd (d_call (ok__law_round T) (hr.mono (by decide)) hgd (a_tank 0 (a_cons (d_var 1) (a_nil))))) (ss_one (s_ret (d_lst (a_cons (d_call (ok__law_mirror T) (hr.mono (by decide)) hgd (a_cons (d_var 3) (a_nil))) (a_cons (d_tup (a_cons (d_str) (a_cons (d_var 3) (a_nil)))) (a_nil))))))) (ss_nil)) (ss_cons (s_if (t_fgt (d_var 2) (d_int)) (ss_one (s_ret (d_call (ok__law_any T) (hr.mono (by decide)) hgd (a_tank 0 (a_cons (d_var 1) (a_nil)))))) (ss_nil)) (ss_cons (s_set 4 nd (d_call (ok__law_nonzero T) (hr.mono (by decide)) hgd (a_tank 0 (a_cons (d_var 1) (a_nil))))) (ss_cons (s_asg (d_tup (a_cons (d_call (ok__law_inner T) (hr.mono (by decide)) hgd (a_tank 0 (a_cons (d_var 2) (a_cons (d_var 4) (a_cons (d_var 1) (a_nil)))))) (a_cons (d_call (ok__law_unlike T) (hr.mono (by decide)) hgd (a_tank 0 (a_cons (d_int) (a_cons (d_var 1) (a_nil))))) (a_nil)))) (g_unp rfl (gs_cons (g_name 5 nd) (gs_cons (g_unp rfl (gs_cons (g_name 6 nd) (gs_cons (g_name 7 nd) (gs_cons (g_name 8 nd) (gs_nil))))) (gs_nil))))) (ss_cons (s_set 9 nd (d_call (ok__law_three T) (hr.mono (by decide)) hgd (a_cons (d_var 6) (a_cons (d_var 7) (a_cons (d_var 8) (a_nil)))))) (ss_cons (s_set 10 nd (d_call (ok__law_after T) (hr.mono (by decide)) hgd (a_cons (d_call (ok__law_back T) (hr.mono (by decide)) hgd (a_cons (d_var 9) (a_nil))) (a_cons (d_call (ok__law_joined T) (hr.mono (by decide)) hgd (a_cons (d_var 5) (a_cons (d_var 9) (a_nil)))) (a_nil))))) (ss_cons (s_if (t_finS hr (d_var 2) (d_tup (a_cons (d_int) (a_cons (d_int) (a_nil))))) (ss_one (s_ret (d_lst (a_cons (d_var 10) (a_cons (d_tup (a_cons (d_str) (a_cons (d_int) (a_cons (g_totup T.z_tuple (a_cons (g_sortT T.z_sorted (a_cons (d_lst (a_cons (d_var 6) (a_cons (d_var 7) (a_nil)))) (a_nil))) (a_nil))) (a_nil))))) (a_nil)))))) (ss_nil)) (ss_one (s_ret (d_lst (a_cons (d_var 10) (a_cons (d_if (t_fne hr (d_var 2) (d_int)) (d_tup (a_cons (d_str) (a_cons (d_int) (a_cons (d_tup (a_cons (d_var 7) (a_nil))) (a_nil))))) (d_tup (a_cons (d_str) (a_cons (d_int) (a_cons (d_tup (a_nil)) (a_nil)))))) (a_nil))))))))))))))
theorem ok__law_right (T : Tx K mg) : Ok P w K mg base 11 "_law_right" ["_law_well_here"] sm__law_right := by
  refine ok_def (N := ["_law_well_here", "_law_kept", "_law_due", "_law_lead", "_law_circle", "_law_stay", "_law_chart_here", "_law_told", "_law_rim", "_law_same", "_law_asked"]) T.d__law_right sc__law_right (fun _ _ _ _ _ _ us hl => match us, hl with | [_], _ => rfl) (fun _ _ _ _ _ _ us hl => match us, hl with | [_], _ => rfl) fun f cdv A fs s H E hr hgd => ?_
  have nd := sc__law_right.nd
  exact ss_cons (s_asg (d_call (ok__law_built T) (hr.mono (by decide)) hgd (a_tank 0 (a_nil))) (g_unp rfl (gs_cons (g_name 1 nd) (gs_cons (g_name 2 nd) (gs_nil))))) (ss_cons (s_par3 3 4 5 rfl nd (a_cons (d_call (ok__law_map T) (hr.mono (by decide)) hgd (a_tank 0 (a_cons (d_int) (a_nil)))) (a_cons (d_call (ok__law_round T) (hr.mono (by decide)) hgd (a_tank 0 (a_cons (d_int) (a_nil)))) (a_cons (d_tup (a_cons (d_int) (a_cons (d_tup (a_cons (d_int) (a_cons (d_int) (a_nil)))) (a_cons (d_tup (a_cons (d_int) (a_cons (d_int) (a_nil)))) (a_cons (d_tup (a_cons (d_int) (a_cons (d_int) (a_nil)))) (a_cons (d_tup (a_cons (d_int) (a_cons (d_int) (a_nil)))) (a_nil))))))) (a_nil))))) (ss_cons (s_set 6 nd (d_call (ok__law_after T) (hr.mono (by decide)) hgd (a_cons (d_var 3) (a_cons (d_var 1) (a_nil))))) (ss_cons (s_set 7 nd (d_lst (a_cons (d_call (ok_agreement T) (hr.mono (by decide)) hgd (a_cons (d_var 6) (a_cons (d_var 3) (a_nil)))) (a_cons (d_call (ok_agreement T) (hr.mono (by decide)) hgd (a_cons (d_var 3) (a_cons (d_var 6) (a_nil)))) (a_cons (d_callKP (ks := ["other", "chart"]) T.d_agreement (ok_agreement T) (hr.mono (by decide)) hgd (fun _ _ _ _ _ _ us hl => match us, hl with | [_, _], _ => rfl) (k_cons (d_var 3) (k_cons (d_var 6) (k_nil)))) (a_cons (d_call (ok_agreement T) (hr.mono (by decide)) hgd (a_cons (d_var 1) (a_cons (d_var 5) (a_nil)))) (a_nil))))))) (ss_cons (s_if (t_fne hr (g_repr hgd (room66 hr) T.z_repr (a_cons (d_var 7) (a_nil))) (g_repr hgd (room66 hr) T.z_repr (a_cons (d_lst (a_cons (d_var 2) (a_cons (d_var 2) (a_cons (d_var 2) (a_cons (d_var 2) (a_nil)))))) (a_nil)))) (ss_one (s_ret (d_bl))) (ss_nil)) (ss_cons (s_set 8 nd (d_if (t_feq hr (f_ix (d_var 2) (d_int)) (d_str)) (f_ix (d_var 2) (d_int)) (d_non))) (ss_cons (s_set 9 nd (d_orV (d_feq hr (f_ix (d_var 2) (d_int)) (d_str)) (d_v1 (d_feq hr (d_var 8) (d_var 4))))) (ss_cons (s_set 10 nd (d_lst (a_cons (d_call (ok_agree_on T) (hr.mono (by decide)) hgd (a_cons (d_var 6) (a_cons (d_var 3) (a_cons (d_var 4) (a_nil))))) (a_cons (d_callMP (ks := ["circle", "other"]) T.d_agree_on (ok_agree_on T) (hr.mono (by decide)) hgd (fun _ _ _ _ _ _ us ws h1 h2 => match us, ws, h1, h2 with | [_], [_, _], _, _ => rfl) (a_cons (d_var 3) (a_nil)) (k_cons (d_var 4) (k_cons (d_var 6) (k_nil)))) (a_cons (d_call (ok_mirror_round T) (hr.mono (by decide)) hgd (a_cons (d_var 1) (a_nil))) (a_nil)))))) (ss_cons (s_if (t_fne hr (g_repr hgd (room66 hr) T.z_repr (a_cons (d_var 10) (a_nil))) (g_repr hgd (room66 hr) T.z_repr (a_cons (d_lst (a_cons (d_var 9) (a_cons (d_var 9) (a_cons (d_var 8) (a_nil))))) (a_nil)))) (ss_one (s_ret (d_bl))) (ss_nil)) (ss_one (s_ret (d_orV (d_isN (d_var 8)) (d_v1 (d_feq hr (g_repr hgd (room66 hr) T.z_repr (a_cons (d_lst (a_cons (d_call (ok_agree_on T) (hr.mono (by decide)) hgd (a_cons (d_var 6) (a_cons (d_var 3) (a_cons (d_var 8) (a_nil))))) (a_cons (d_callK (ok_mirror_round T) (hr.mono (by decide)) hgd (k_cons (d_var 1) (k_nil))) (a_nil)))) (a_nil))) (g_repr hgd (room66 hr) T.z_repr (a_cons (d_lst (a_cons (d_bl) (a_cons (d_var 8) (a_nil)))) (a_nil))))))))))))))))
theorem ok_law (T : Tx K mg) : Ok P w K mg base 12 "law" ["_law_script"] sm_law := by
  refine ok_def (N := ["_law_script", "_law_spot_here"]) T.d_law sc_law (fun _ _ _ _ _ _ us hl => match us, hl with | [_], _ => rfl) (fun _ _ _ _ _ _ us hl => match us, hl with | [_], _ => rfl) fun f cdv A fs s H E hr hgd => ?_
  have nd := sc_law.nd
  exact ss_cons (s_forI PassesOwn.never rfl (i_range1 T.z_range (a_cons (d_call (ok__law_rounds T) (hr.mono (by decide)) hgd (a_cons (d_var 0) (a_nil))) (a_nil))) (g_name 1 nd) (ss_one (s_if (d_tnot (d_tst (d_callT (ok__law_right T) (ok__law_well T) (hr.mono (by decide)) (hr.mono (by decide)) hgd (a_cons (d_var 0) (a_cons (d_var 1) (a_nil))) rfl))) (ss_one (s_ret (d_bl))) (ss_nil)))) (ss_one (s_ret (d_bl)))
end
theorem hd_tx {K : PySem.W.Frag} {mg : Str → Option Value} {h : Heap} (X : K.In h) (G : h.Ns mainGlobals mg) (c : hd.Says K) : Tx K mg := {
  d_is_whole := c.df X G 0
  d_are_wholes := c.df X G 1
  d_divisor_of := c.df X G 2
  d_lowest := c.df X G 3
  d_is_lowest := c.df X G 4
  d_is_led_up := c.df X G 5
  d_first_above := c.df X G 6
  d_is_complex := c.df X G 7
  d_plus := c.df X G 8
  d_minus := c.df X G 9
  d_times := c.df X G 10
  d_scaled := c.df X G 11
  d_turned_over := c.df X G 12
  d_square_size := c.df X G 13
  d_unit_for := c.df X G 14
  d_nearest := c.df X G 15
  d_divisor_of_two := c.df X G 16
  d_divisor_of_all := c.df X G 17
  d_divided := c.df X G 18
  d_root := c.df X G 19
  d_quotient_place := c.df X G 20
  d_bend := c.df X G 21
  d_is_row := c.df X G 22
  d_is_round := c.df X G 23
  d_check_round := c.df X G 24
  d_determinant := c.df X G 25
  d_form_of := c.df X G 26
  d_is_flag := c.df X G 27
  d_is_map := c.df X G 28
  d_check_map := c.df X G 29
  d_led_by := c.df X G 30
  d_joined := c.df X G 31
  d_way_back := c.df X G 32
  d_mirror_of := c.df X G 33
  d_trace := c.df X G 34
  d_trace_place := c.df X G 35
  d_plain_kind := c.df X G 36
  d_kind := c.df X G 37
  d_kind_of := c.df X G 38
  d_staying := c.df X G 39
  d_plain_kept := c.df X G 40
  d_staying_places := c.df X G 41
  d_step_between := c.df X G 42
  d_rows_kept := c.df X G 43
  d_row_of_mirror := c.df X G 44
  d_agreement := c.df X G 45
  d_agree_on := c.df X G 46
  d_mirror_round := c.df X G 47
  d__law_well := c.df X G 48
  d__law_dip := c.df X G 49
  d__law_of := c.df X G 50
  d__law_whole := c.df X G 51
  d__law_rounds := c.df X G 52
  d__law_gcd := c.df X G 53
  d__law_cut := c.df X G 54
  d__law_form := c.df X G 55
  d__law_root := c.df X G 56
  d__law_times := c.df X G 57
  d__law_plus := c.df X G 58
  d__law_minus := c.df X G 59
  d__law_conj := c.df X G 60
  d__law_norm := c.df X G 61
  d__law_scaled := c.df X G 62
  d__law_over := c.df X G 63
  d__law_deep := c.df X G 64
  d__law_quarter := c.df X G 65
  d__law_chart := c.df X G 66
  d__law_spot := c.df X G 67
  d__law_joined := c.df X G 68
  d__law_after := c.df X G 69
  d__law_back := c.df X G 70
  d__law_mirror := c.df X G 71
  d__law_place := c.df X G 72
  d__law_unlike := c.df X G 73
  d__law_round := c.df X G 74
  d__law_nonzero := c.df X G 75
  d__law_four := c.df X G 76
  d__law_map := c.df X G 77
  d__law_three := c.df X G 78
  d__law_complex_root := c.df X G 79
  d__law_inner := c.df X G 80
  d__law_any := c.df X G 81
  d__law_built := c.df X G 82
  d__law_right := c.df X G 83
  d_law := c.df X G 84
  z_abs := c.fr X G 0
  z_all := c.fr X G 1
  z_bool := c.fr X G 2
  z_divmod := c.fr X G 3
  z_int := c.fr X G 4
  z_isinstance := c.fr X G 5
  z_len := c.fr X G 6
  z_list := c.fr X G 7
  z_max := c.fr X G 8
  z_min := c.fr X G 9
  z_range := c.fr X G 10
  z_repr := c.fr X G 11
  z_set := c.fr X G 12
  z_sorted := c.fr X G 13
  z_tuple := c.fr X G 14
  b_gcd := c.bf X G 0
  b_isqrt := c.bf X G 1
  c_UNITS := c.gc X G 0
  c_ZERO := c.gc X G 1
  c_FAR := c.gc X G 2
  c_STAYS := c.gc X G 3
  }
private theorem forL_c {g : dG} {f : dS} {k : dEnds} {d : D} {r : List D} {ρ : En} {T : Tk} : forL g f k (d :: r) ρ T = g d ρ T fun ρ1 T1 => f { nx := forL g f k r, rt := k.rt, bk := k.nx, ct := forL g f k r } ρ1 T1 := rfl
private theorem forL_n {g : dG} {f : dS} {k : dEnds} {ρ : En} {T : Tk} : forL g f k [] ρ T = k.nx ρ T := rfl
private theorem repD_succ {xs : List D} {n : Nat} : repD xs (n + 1) = xs ++ repD xs n := by unfold repD; rw [List.replicate_succ, List.flatten_cons]
private theorem repD_zero {xs : List D} : repD xs 0 = [] := rfl
local macro_rules | `(tactic| walk_at "ev") => `(tactic| try simp (maxSteps := 2000000) only [dVar, dC, dOp, dNeg, dIsN, dNotN, dTst, dAnd, dOr, dNot, dAndV, dOrV, dNotV, dIf, aNil, aCons, aTank, aStar, dTup, dLst, vals?, oF, oG, fAdd_int, fAdd_lst, fAdd_tup, fAdd_str, fSub_int, fSub_bl, fMul_int, fMul_lst, fDiv_int, fMod_int, fPow_int, fShl_int, fLt_int, fLe_int, fGt_int, fGe_int, fEq_int, fEq_str, fEq_bl, fEq_tup, fEq_lst, fEq_tn, fEq_nt, fEq_nn,
  fNe_int, fNe_str, fNe_bl, fNe_tup, fNe_lst, fNe_tn, fNe_nt, fNe_nn, fIn_lst, fNotIn_lst, fInS_lst, fInS_tup, fNotInS_lst, fNotInS_tup, gTL, iZA, zip2_lst, zip2_tup, zipD_nil, zipD_cons, enD, iEn, sOwnC, sParC, sPar3C, gOs, sFrq, dView, dViewT, noL_int, noL_bl, noL_str, noL_non, noL_tup, noLL_nil, noLL_cons, fIx_tup, fIx_lst, fIx_scr, ixR_some, it_tup, it_lst, cutq_lst, cutq_scr, cutq_tup, dSlQ, pSome, sSeq, sRet, sExpr, sIf, sAsg, gN, gsNil, gsCons, gT, sPar, sPar3, sParO, sForI, iQ, iR1, iR2, iR3, iZ, dCall, dCallT, dBlt, fLen_tup, fLen_lst, fLen_scr, fI1_int, fI2_int, fInt_int, fInt_bl, fSqrt_isq, fDivmod_int, fAll_lst, fAny_lst, fSum_lst, blR_some, nuR_some, fTuple_lst, fTuple_tup, fList_lst, fList_tup, fList_scr, fRepr_int, fRepr_tup, fRepr_lst, dIsi, isTy, sOwn, sFrz, sApp,
  dTix, gTs, isTank, dLc, cN, cT, setAll, dYes, wipeD, no0, isNon_non, isNon_int, isNon_bl, isNon_str, isNon_tup, isNon_lst, eqD_int, eqD_str, eqD_bl, eqD_nn, eqD_ni, eqD_in, eqD_nt, eqD_tn, eqD_tup, eqD_lst, eqDL_nil, eqDL_nc, eqDL_cn, eqDL_cons, Bool.and_eq_true, List.any_cons, List.any_nil, ifT, ifF, ifA, ifO, List.length_cons, List.length_nil, List.cons_append, List.nil_append, List.getElem?_cons_zero, List.getElem?_cons_succ, List.set_cons_zero, List.set_cons_succ, Option.map_some, Nat.reduceAdd, Nat.reduceSub, atI_lit, ixN_lit, atI_m1, Nat.reduceLT, reduceIte, Nat.reduceLeDiff, true_and,
  and_true, List.append_nil, List.map_cons, List.map_nil, decide_eq_true_eq, Bool.not_eq_true', decide_eq_false_iff_not, Int.cast_ofNat_Int, Int.reduceLT, Int.reduceLE, decide_true, decide_false, Bool.false_eq_true, Bool.not_true, Bool.not_false, lcD, forL_c, forL_n, cut_none, cut_to, cut_from, cut_fromto, List.take_succ_cons, List.take_zero, List.drop_succ_cons, List.drop_zero, List.take_nil, List.drop_nil, bls_nil, bls_cons, nums_nil, nums_cons, all_nil', all_cons', any_nil', any_cons', Bool.and_true, Bool.true_and, Bool.or_false, Bool.false_or, Bool.and_false, Bool.false_and])
local macro_rules | `(tactic| walk_at "evn") => `(tactic| try simp (maxSteps := 2000000) only [dVar, dC, dOp, dNeg, dIsN, dNotN, dTst, dAnd, dOr, dNot, dAndV, dOrV, dNotV, dIf, aNil, aCons, aTank, aStar, dTup, dLst, vals?, oF, oG, fAdd_int, fAdd_lst, fAdd_tup, fAdd_str, fSub_int, fSub_bl, fMul_int, fMul_lst, fDiv_int, fMod_int, fPow_int, fShl_int, fLt_int, fLe_int, fGt_int, fGe_int, fEq_int, fEq_str, fEq_bl, fEq_tup, fEq_lst, fEq_tn, fEq_nt, fEq_nn,
  fNe_int, fNe_str, fNe_bl, fNe_tup, fNe_lst, fNe_tn, fNe_nt, fNe_nn, fIn_lst, fNotIn_lst, fInS_lst, fInS_tup, fNotInS_lst, fNotInS_tup, gTL, iZA, zip2_lst, zip2_tup, zipD_nil, zipD_cons, enD, iEn, sOwnC, sParC, sPar3C, gOs, sFrq, dView, dViewT, noL_int, noL_bl, noL_str, noL_non, noL_tup, noLL_nil, noLL_cons, fIx_tup, fIx_lst, fIx_scr, ixR_some, it_tup, it_lst, cutq_lst, cutq_scr, cutq_tup, dSlQ, pSome, sSeq, sRet, sExpr, sIf, sAsg, gN, gsNil, gsCons, gT, sPar, sPar3, sParO, sForI, iQ, iR1, iR2, iR3, iZ, dCall, dCallT, dBlt, fLen_tup, fLen_lst, fLen_scr, fI1_int, fI2_int, fInt_int, fInt_bl, fSqrt_isq, fDivmod_int, fAll_lst, fAny_lst, fSum_lst, blR_some, nuR_some, fTuple_lst, fTuple_tup, fList_lst, fList_tup, fList_scr, fRepr_int, fRepr_tup, fRepr_lst, dIsi, isTy, sOwn, sFrz, sApp,
  dTix, gTs, isTank, dLc, cN, cT, setAll, dYes, wipeD, no0, isNon_non, isNon_int, isNon_bl, isNon_str, isNon_tup, isNon_lst, eqD_int, eqD_str, eqD_bl, eqD_nn, eqD_ni, eqD_in, eqD_nt, eqD_tn, eqD_tup, eqD_lst, eqDL_nil, eqDL_nc, eqDL_cn, eqDL_cons, Bool.and_eq_true, List.any_cons, List.any_nil, ifT, ifF, ifA, ifO, List.length_cons, List.length_nil, List.cons_append, List.nil_append, List.getElem?_cons_zero, List.getElem?_cons_succ, List.set_cons_zero, List.set_cons_succ, Option.map_some, Nat.reduceAdd, Nat.reduceSub, atI_lit, ixN_lit, atI_m1, Nat.reduceLT, reduceIte, Nat.reduceLeDiff, true_and,
  and_true, List.append_nil, List.map_cons, List.map_nil, decide_eq_true_eq, Bool.not_eq_true', decide_eq_false_iff_not, Int.cast_ofNat_Int, Int.reduceLT, Int.reduceLE, decide_true, decide_false, Bool.false_eq_true, Bool.not_true, Bool.not_false, lcD, forL_c, forL_n, cut_none, cut_to, cut_from, cut_fromto, List.take_succ_cons, List.take_zero, List.drop_succ_cons, List.drop_zero, List.take_nil, List.drop_nil, bls_nil, bls_cons, nums_nil, nums_cons, all_nil', all_cons', any_nil', any_cons', Bool.and_true, Bool.true_and, Bool.or_false, Bool.false_or, Bool.and_false, Bool.false_and, intsL, Int.reduceToNat, Int.reduceAdd, Int.reduceSub, Int.reduceMul, Int.reduceMod, Int.reduceNeg, Int.reducePow, Int.reduceEq, Int.reduceNe, Int.one_mul, Int.neg_mul, ne_eq, not_true_eq_false, not_false_eq_true, repD_succ, repD_zero, Nat.reduceMul])
local macro_rules | `(tactic| walk_at "mok") => `(tactic| (apply Sz.mulOk; (repeat' (first | assumption | apply Sz.mul | apply Sz.add | apply Sz.sub | apply Sz.neg)); all_goals omega))
local macro_rules | `(tactic| walk_at "evs") => `(tactic| try simp (maxSteps := 2000000) only [dVar, dC, dOp, dNeg, dIsN, dNotN, dTst, dAnd, dOr, dNot, dAndV, dOrV, dNotV, dIf, aNil, aCons, aTank, aStar, dTup, dLst, vals?, oF, oG, fAdd_int, fAdd_lst, fAdd_tup, fAdd_str, fSub_int, fSub_bl, fMul_int, fMul_lst, fDiv_int, fMod_int, fPow_int, fShl_int, fLt_int, fLe_int, fGt_int, fGe_int, fEq_int, fEq_str, fEq_bl, fEq_tup, fEq_lst, fEq_tn, fEq_nt, fEq_nn,
  fNe_int, fNe_str, fNe_bl, fNe_tup, fNe_lst, fNe_tn, fNe_nt, fNe_nn, fIn_lst, fNotIn_lst, fInS_lst, fInS_tup, fNotInS_lst, fNotInS_tup, gTL, iZA, zip2_lst, zip2_tup, zipD_nil, zipD_cons, iEn, sOwnC, sParC, sPar3C, gOs, sFrq, dView, dViewT, noL_int, noL_bl, noL_str, noL_non, noL_tup, noLL_nil, noLL_cons, fIx_tup, fIx_lst, fIx_scr, ixR_some, it_tup, it_lst, cutq_lst, cutq_scr, cutq_tup, dSlQ, pSome, sSeq, sRet, sExpr, sIf, sAsg, gN, gsNil, gsCons, gT, sPar, sPar3, sParO, sForI, iQ, iR1, iR2, iR3, iZ, dCall, dCallT, dBlt, fLen_tup, fLen_lst, fLen_scr, fI1_int, fI2_int, fInt_int, fInt_bl, fSqrt_isq, fDivmod_int, fAll_lst, fAny_lst, fSum_lst, blR_some, nuR_some, fTuple_lst, fTuple_tup, fList_lst, fList_tup, fList_scr, fRepr_int, fRepr_tup, fRepr_lst, dIsi, isTy, sOwn, sFrz, sApp,
  dTix, gTs, isTank, dLc, cN, cT, setAll, dYes, wipeD, no0, isNon_non, isNon_int, isNon_bl, isNon_str, isNon_tup, isNon_lst, eqD_int, eqD_str, eqD_bl, eqD_nn, eqD_ni, eqD_in, eqD_nt, eqD_tn, eqD_tup, eqD_lst, eqDL_nil, eqDL_nc, eqDL_cn, eqDL_cons, Bool.and_eq_true, List.any_cons, List.any_nil, ifT, ifF, ifA, ifO, List.length_cons, List.length_nil, List.cons_append, List.nil_append, List.getElem?_cons_zero, List.getElem?_cons_succ, List.set_cons_zero, List.set_cons_succ, Option.map_some, Nat.reduceAdd, Nat.reduceSub, atI_lit, ixN_lit, atI_m1, Nat.reduceLT, reduceIte, Nat.reduceLeDiff, true_and,
  and_true, List.append_nil, List.map_cons, List.map_nil, decide_eq_true_eq, Bool.not_eq_true', decide_eq_false_iff_not, Int.cast_ofNat_Int, Int.reduceLT, Int.reduceLE, decide_true, decide_false, Bool.false_eq_true, Bool.not_true, Bool.not_false, lcD, cut_none, cut_to, cut_from, cut_fromto, List.take_succ_cons, List.take_zero, List.drop_succ_cons, List.drop_zero, List.take_nil, List.drop_nil, bls_nil, bls_cons, nums_nil, nums_cons, all_nil', all_cons', any_nil', any_cons', Bool.and_true, Bool.true_and, Bool.or_false, Bool.false_or, Bool.and_false, Bool.false_and, intsL, Int.reduceToNat, Int.reduceAdd, Int.reduceSub, Int.reduceMul, Int.reduceMod, Int.reduceNeg, Int.reducePow, Int.reduceEq, Int.reduceNe, Int.one_mul, Int.neg_mul, ne_eq, not_true_eq_false, not_false_eq_true, repD_succ, repD_zero, Nat.reduceMul])
local macro_rules | `(tactic| walk_at "evm") => `(tactic| try simp (maxSteps := 2000000) only [dVar, dC, dOp, dNeg, dIsN, dNotN, dTst, dAnd, dOr, dNot, dAndV, dOrV, dNotV, dIf, aNil, aCons, aTank, aStar, dTup, dLst, vals?, oF, oG, fAdd_int, fAdd_lst, fAdd_tup, fAdd_str, fSub_int, fSub_bl, fMul_int, fMul_lst, fDiv_int, fMod_int, fPow_int, fShl_int, fLt_int, fLe_int, fGt_int, fGe_int, fEq_int, fEq_str, fEq_bl, fEq_tup, fEq_lst, fEq_tn, fEq_nt, fEq_nn,
  fNe_int, fNe_str, fNe_bl, fNe_tup, fNe_lst, fNe_tn, fNe_nt, fNe_nn, fIn_lst, fNotIn_lst, fInS_lst, fInS_tup, fNotInS_lst, fNotInS_tup, gTL, iZA, zip2_lst, zip2_tup, zipD_nil, zipD_cons, iEn, sOwnC, sParC, sPar3C, gOs, sFrq, dView, dViewT, noL_int, noL_bl, noL_str, noL_non, noL_tup, noLL_nil, noLL_cons, fIx_tup, fIx_lst, fIx_scr, ixR_some, it_tup, it_lst, cutq_lst, cutq_scr, cutq_tup, dSlQ, pSome, sSeq, sRet, sExpr, sIf, sAsg, gN, gsNil, gsCons, gT, sPar, sPar3, sParO, sForI, iQ, iR1, iR2, iR3, iZ, dCall, dCallT, dBlt, fLen_tup, fLen_lst, fLen_scr, fI1_int, fI2_int, fInt_int, fInt_bl, fSqrt_isq, fDivmod_int, fAll_lst, fAny_lst, fSum_lst, blR_some, nuR_some, fTuple_lst, fTuple_tup, fList_lst, fList_tup, fList_scr, fRepr_int, fRepr_tup, fRepr_lst, dIsi, isTy, sOwn, sFrz, sApp,
  dTix, gTs, isTank, dLc, cN, cT, setAll, dYes, wipeD, no0, isNon_non, isNon_int, isNon_bl, isNon_str, isNon_tup, isNon_lst, eqD_int, eqD_str, eqD_bl, eqD_nn, eqD_ni, eqD_in, eqD_nt, eqD_tn, eqD_tup, eqD_lst, eqDL_nil, eqDL_nc, eqDL_cn, eqDL_cons, Bool.and_eq_true, List.any_cons, List.any_nil, ifT, ifF, ifA, ifO, List.length_cons, List.length_nil, List.cons_append, List.nil_append, List.getElem?_cons_zero, List.getElem?_cons_succ, List.set_cons_zero, List.set_cons_succ, Option.map_some, Nat.reduceAdd, Nat.reduceSub, atI_lit, ixN_lit, atI_m1, Nat.reduceLT, reduceIte, Nat.reduceLeDiff, true_and,
  and_true, List.append_nil, List.map_cons, List.map_nil, decide_eq_true_eq, Bool.not_eq_true', decide_eq_false_iff_not, Int.cast_ofNat_Int, Int.reduceLT, Int.reduceLE, decide_true, decide_false, Bool.false_eq_true, Bool.not_true, Bool.not_false, cut_none, cut_to, cut_from, cut_fromto, List.take_succ_cons, List.take_zero, List.drop_succ_cons, List.drop_zero, List.take_nil, List.drop_nil, bls_nil, bls_cons, nums_nil, nums_cons, all_nil', all_cons', any_nil', any_cons', Bool.and_true, Bool.true_and, Bool.or_false, Bool.false_or, Bool.and_false, Bool.false_and, intsL, Int.reduceToNat, Int.reduceAdd, Int.reduceSub, Int.reduceMul, Int.reduceMod, Int.reduceNeg, Int.reducePow, Int.reduceEq, Int.reduceNe, Int.one_mul, Int.neg_mul, ne_eq, not_true_eq_false, not_false_eq_true, repD_succ, repD_zero, Nat.reduceMul])
local macro_rules | `(tactic| walk_at "evq") => `(tactic| try simp (maxSteps := 2000000) only [dVar, dC, dOp, dNeg, dIsN, dNotN, dTst, dAnd, dOr, dNot, dAndV, dOrV, dNotV, dIf, aNil, aCons, aTank, aStar, dTup, dLst, vals?, oF, oG, fAdd_int, fAdd_lst, fAdd_tup, fAdd_str, fSub_int, fSub_bl, fMul_int, fMul_lst, fDiv_int, fMod_int, fPow_int, fShl_int, fLt_int, fLe_int, fGt_int, fGe_int, fEq_int, fEq_str, fEq_bl, fEq_tup, fEq_lst, fEq_tn, fEq_nt, fEq_nn,
  fNe_int, fNe_str, fNe_bl, fNe_tup, fNe_lst, fNe_tn, fNe_nt, fNe_nn, fIn_lst, fNotIn_lst, fInS_lst, fInS_tup, fNotInS_lst, fNotInS_tup, gTL, iZA, zip2_lst, zip2_tup, zipD_nil, zipD_cons, iEn, sOwnC, sParC, sPar3C, gOs, sFrq, dView, dViewT, noL_int, noL_bl, noL_str, noL_non, noL_tup, noLL_nil, noLL_cons, fIx_tup, fIx_lst, fIx_scr, ixR_some, it_tup, it_lst, cutq_lst, cutq_scr, cutq_tup, dSlQ, pSome, sSeq, sRet, sExpr, sIf, sAsg, gN, gsNil, gsCons, gT, sPar, sPar3, sParO, sForI, iQ, iR1, iR2, iR3, iZ, dCall, dCallT, dBlt, fLen_tup, fLen_lst, fLen_scr, fI1_int, fI2_int, fInt_int, fInt_bl, fSqrt_isq, fDivmod_int, fAll_lst, fAny_lst, fSum_lst, blR_some, nuR_some, fTuple_lst, fTuple_tup, fList_lst, fList_tup, fList_scr, fRepr_int, fRepr_tup, fRepr_lst, dIsi, isTy, sOwn, sFrz, sApp,
  dTix, gTs, isTank, dLc, cN, cT, setAll, dYes, wipeD, no0, isNon_non, isNon_int, isNon_bl, isNon_str, isNon_tup, isNon_lst, eqD_int, eqD_str, eqD_bl, eqD_nn, eqD_ni, eqD_in, eqD_nt, eqD_tn, eqD_tup, eqD_lst, eqDL_nil, eqDL_nc, eqDL_cn, eqDL_cons, Bool.and_eq_true, List.any_cons, List.any_nil, ifT, ifF, ifA, ifO, List.length_cons, List.length_nil, List.cons_append, List.nil_append, List.getElem?_cons_zero, List.getElem?_cons_succ, List.set_cons_zero, List.set_cons_succ, Option.map_some, Nat.reduceAdd, Nat.reduceSub, atI_lit, ixN_lit, atI_m1, Nat.reduceLT, reduceIte, Nat.reduceLeDiff, true_and,
  and_true, List.append_nil, List.map_cons, List.map_nil, decide_eq_true_eq, Bool.not_eq_true', decide_eq_false_iff_not, Int.cast_ofNat_Int, Int.reduceLT, Int.reduceLE, decide_true, decide_false, Bool.false_eq_true, Bool.not_true, Bool.not_false, cut_none, cut_to, cut_from, cut_fromto, List.take_succ_cons, List.take_zero, List.drop_succ_cons, List.drop_zero, List.take_nil, List.drop_nil, bls_nil, bls_cons, nums_nil, nums_cons, all_nil', all_cons', any_nil', any_cons', Bool.and_true, Bool.true_and, Bool.or_false, Bool.false_or, Bool.and_false, Bool.false_and, Int.reduceAdd, Int.reduceSub, Int.reduceMul, Int.reduceMod, Int.reduceNeg, Int.reducePow, Int.reduceEq, Int.reduceNe, Int.one_mul, Int.neg_mul, ne_eq, not_true_eq_false, not_false_eq_true, repD_succ, repD_zero, Nat.reduceMul])
local macro_rules | `(tactic| walk_at "wk") => `(tactic| (try simp (maxSteps := 2000000) (dsimp := false) (implicitDefEqProofs := false) only [↓h_var, ↓h_c, ↓h_op, ↓h_neg, ↓h_isN, ↓h_notN, ↓h_tst, ↓h_and, ↓h_or, ↓h_not, ↓h_andV, ↓h_orV, ↓h_notV, ↓h_if, ↓h_anil, ↓h_acons, ↓h_atank, ↓h_astar, ↓h_tup, ↓h_lst, ↓h_call, ↓h_callX, ↓h_tupIx, ↓h_raise1, ↓h_raise0, ↓h_isE, ↓h_givE, ↓h_mt, ↓h_callT, ↓h_callP, ↓h_aApp, ↓h_blt, ↓h_psome, ↓h_slq, ↓h_rev, ↓h_dct0, ↓h_dct1, ↓h_dctIx, ↓h_isi, ↓h_iQ, ↓h_iR1, ↓h_iR2, ↓h_iR3, ↓h_iZA, ↓h_iZ3, ↓h_iEn, ↓h_seq, ↓h_ret, ↓h_expr, ↓h_sif, ↓h_asg, ↓h_gN, ↓h_gsnil, ↓h_gscons, ↓h_gTL, ↓h_gT, ↓h_par, ↓h_par3, ↓h_parO, ↓h_parF, ↓h_parC, ↓h_par3C, ↓h_own, ↓h_ownC, ↓h_frz, ↓h_frq, ↓h_app, ↓h_view, ↓h_viewT, ↓h_gOs, ↓h_for, ↓h_lc, ↓h_lcO, ↓h_yes, ↓oF_pd, ↓orVK_t, ↓andVK_f, ↓orK_t, ↓andK_f, varK_go, tixK_go, exK_0, exK_1, gvK_1, mtK_go, raiK_go, iteB_t, iteB_f, iteB_not, iteB_tt, setE_go, pdK_c, pdK_t, negK_go, bolK_go, tstK_go, andK_t, andK_f, andK_p, andK_q, orK_t, orK_f, orK_p, orK_q, andVK_t, andVK_f, andVK_p, andVK_q, orVK_t, orVK_f, orVK_p, orVK_q, notVK_go, tnkK_go, sqK_go, vals_val, vals_nil, callN_go, callP_go, lstK_go, opK_go, intK_go, blqK_go, r1K_go, r2K_go, r3K_go, zpK_go, zp3K_go, parK_go, parK3_go, ownK_o, ownK_v, ownK_n, natK_go, forK_nil, forK_cons, lcK_nil, lcK_cons, enK_go, h_cN, h_cT, setAll_nil, setAll_cons, wipe_nil, wipe_cons, okN_t, okN_non, okN_int, okN_bl, okN_tup, okN_lst, okL_nil, okL_cons, fReprE_lst, fReprE_tup, fReprE_int, fReprE_bl, fReprE_non, fCntT_lst, fIdxT_lst, cntC_some, idxC_some, ixR2_some, idxI_t, idxI_f, cntT_nil, cntT_t, cntT_f, fSortT_lst, stR_some, fSortS_lst, stS_some, fSortI_lst, siR_some, fLtU_int, fLtU_tup, ltR_some, tups_nil, tups_c, tpC_some, fBitL_int, permL_n, permL_c, pmC_s, fMaxL_lst, mxR_some, isTy_dct, isNon_dct, fIs_bl, fIsn_bl, bIs_t, bIs_f, bIs_s, rev_lst, rev_tup, rev_scr, List.reverse_cons, List.reverse_nil, fAdd_int, fAdd_lst, fAdd_tup, fAdd_str, fSub_int, fSub_bl, fMul_int, fMul_lst, fDiv_int, fMod_int, fPow_int, fShl_int, fLt_int, fLe_int, fGt_int, fGe_int, fEq_int, fEq_str, fEq_bl, fEq_tup, fEq_lst, fEq_tn, fEq_nt, fEq_nn, fEq_it, fEq_ti, fEq_in, fEq_ni, fNe_in, fNe_ni, fNe_int, fNe_str, fNe_bl, fNe_tup, fNe_lst, fNe_tn, fNe_nt, fNe_nn, fInS_lst, fInS_tup, fNotInS_lst, fNotInS_tup, zip2_lst, zip2_tup, zip3_tup, zipD3_cons, zipD3_nil, zipD_nil, zipD_cons, enD, noL_int, noL_bl, noL_str, noL_non, noL_tup, noLL_nil, noLL_cons, fIx_tup, fIx_lst, fIx_scr, ixR_some, it_tup, it_lst, cutq_lst, cutq_scr, cutq_tup, fLen_tup, fLen_lst, fLen_scr, fI1_int, fI2_int, fInt_int, fInt_bl, fSqrt_isq, fDivmod_int, fAll_lst, fAny_lst, fSum_lst, blR_some, nuR_some, fTuple_lst, fTuple_tup, fList_lst, fList_tup, fList_scr, fRepr_int, fRepr_bl, fRepr_non, fRepr_tup, fRepr_lst, isTy, isNon_non, isNon_int, isNon_bl, isNon_str, isNon_tup, isNon_lst, eqD_int, eqD_str, eqD_bl, eqD_nn, eqD_ni, eqD_in, eqD_nt, eqD_tn, eqD_tup, eqD_lst, eqDL_nil, eqDL_nc, eqDL_cn, eqDL_cons, List.any_cons, List.any_nil, List.length_cons, List.length_nil, List.cons_append, List.nil_append, List.getElem?_cons_zero, List.getElem?_cons_succ, List.set_cons_zero, List.set_cons_succ, Option.map_some, Nat.reduceAdd, Nat.reduceSub, atI_lit, ixN_lit, atI_m1, Nat.reduceLT, reduceIte, Nat.reduceLeDiff, true_and, and_true, List.append_nil, List.map_cons, List.map_nil, Bool.not_eq_true', Int.cast_ofNat_Int, Int.reduceLT, Int.reduceLE, decide_true, decide_false, Bool.false_eq_true, Bool.not_true, Bool.not_false, cut_none, cut_to, cut_from, cut_fromto, List.take_succ_cons, List.take_zero, List.drop_succ_cons, List.drop_zero, List.take_nil, List.drop_nil, bls_nil, bls_cons, nums_nil, nums_cons, all_nil', all_cons', any_nil', any_cons', Bool.and_true, Bool.true_and, Bool.or_false, Bool.false_or, Bool.and_false, Bool.false_and, Bool.true_or, Bool.or_true, Int.reduceToNat, Int.reduceAdd, Int.reduceSub, Int.reduceMul, Int.reduceMod, Int.reduceNeg, Int.reducePow, Int.reduceEq, Int.reduceNe, Int.one_mul, Int.neg_mul, ne_eq, not_true_eq_false, not_false_eq_true, repD_succ, repD_zero, Nat.reduceMul, Bool.not_not, eq_self, and_self, false_implies, true_implies, implies_true, Nat.reduceEqDiff]); try rewrite [callS_eq])
local macro_rules | `(tactic| walk_at "wki") => `(tactic| (try simp (maxSteps := 2000000) (dsimp := false) (implicitDefEqProofs := false) only [↓h_var, ↓h_c, ↓h_op, ↓h_neg, ↓h_isN, ↓h_notN, ↓h_tst, ↓h_and, ↓h_or, ↓h_not, ↓h_andV, ↓h_orV, ↓h_notV, ↓h_if, ↓h_anil, ↓h_acons, ↓h_atank, ↓h_astar, ↓h_tup, ↓h_lst, ↓h_call, ↓h_callX, ↓h_tupIx, ↓h_raise1, ↓h_raise0, ↓h_isE, ↓h_givE, ↓h_mt, ↓h_callT, ↓h_callP, ↓h_aApp, ↓h_blt, ↓h_psome, ↓h_slq, ↓h_rev, ↓h_dct0, ↓h_dct1, ↓h_dctIx, ↓h_isi, ↓h_iQ, ↓h_iR1, ↓h_iR2, ↓h_iR3, ↓h_iZA, ↓h_iZ3, ↓h_iEn, ↓h_seq, ↓h_ret, ↓h_expr, ↓h_sif, ↓h_asg, ↓h_gN, ↓h_gsnil, ↓h_gscons, ↓h_gTL, ↓h_gT, ↓h_par, ↓h_par3, ↓h_parO, ↓h_parF, ↓h_parC, ↓h_par3C, ↓h_own, ↓h_ownC, ↓h_frz, ↓h_frq, ↓h_app, ↓h_view, ↓h_viewT, ↓h_gOs, ↓h_for, ↓h_lc, ↓h_lcO, ↓h_yes, ↓oF_pd, ↓orVK_t, ↓andVK_f, ↓orK_t, ↓andK_f, varK_go, tixK_go, exK_0, exK_1, gvK_1, mtK_go, raiK_go, iteB_t, iteB_f, iteB_not, iteB_tt, setE_go, pdK_c, pdK_t, negK_go, bolK_go, tstK_go, andK_t, andK_f, andK_p, andK_q, orK_t, orK_f, orK_p, orK_q, andVK_t, andVK_f, andVK_p, andVK_q, orVK_t, orVK_f, orVK_p, orVK_q, notVK_go, tnkK_go, sqK_go, vals_val, vals_nil, callN_go, callP_go, lstK_go, opK_go, intK_go, blqK_go, r1K_go, r2K_go, r3K_go, zpK_go, zp3K_go, parK_go, parK3_go, ownK_o, ownK_v, ownK_n, natK_go, forK_nil, forK_cons, lcK_nil, lcK_cons, enK_go, h_cN, h_cT, setAll_nil, setAll_cons, wipe_nil, wipe_cons, okN_t, okN_non, okN_int, okN_bl, okN_tup, okN_lst, okL_nil, okL_cons, fReprE_lst, fReprE_tup, fReprE_int, fReprE_bl, fReprE_non, fCntT_lst, fIdxT_lst, cntC_some, idxC_some, ixR2_some, idxI_t, idxI_f, cntT_nil, cntT_t, cntT_f, fSortT_lst, stR_some, fSortS_lst, stS_some, fSortI_lst, siR_some, fLtU_int, fLtU_tup, ltR_some, tups_nil, tups_c, tpC_some, fBitL_int, permL_n, permL_c, pmC_s, fMaxL_lst, mxR_some, isTy_dct, isNon_dct, fIs_bl, fIsn_bl, bIs_t, bIs_f, bIs_s, rev_lst, rev_tup, rev_scr, List.reverse_cons, List.reverse_nil, fAdd_int, fAdd_lst, fAdd_tup, fAdd_str, fSub_int, fSub_bl, fMul_int, fMul_lst, fDiv_int, fMod_int, fPow_int, fShl_int, fLt_int, fLe_int, fGt_int, fGe_int, fEq_int, fEq_str, fEq_bl, fEq_tup, fEq_lst, fEq_tn, fEq_nt, fEq_nn, fEq_it, fEq_ti, fEq_in, fEq_ni, fNe_in, fNe_ni, fNe_int, fNe_str, fNe_bl, fNe_tup, fNe_lst, fNe_tn, fNe_nt, fNe_nn, fInS_lst, fInS_tup, fNotInS_lst, fNotInS_tup, zip2_lst, zip2_tup, zip3_tup, zipD3_cons, zipD3_nil, zipD_nil, zipD_cons, enD, noL_int, noL_bl, noL_str, noL_non, noL_tup, noLL_nil, noLL_cons, fIx_tup, fIx_lst, fIx_scr, ixR_some, it_tup, it_lst, cutq_lst, cutq_scr, cutq_tup, fLen_tup, fLen_lst, fLen_scr, fI1_int, fI2_int, fInt_int, fInt_bl, fSqrt_isq, fDivmod_int, fAll_lst, fAny_lst, fSum_lst, blR_some, nuR_some, fTuple_lst, fTuple_tup, fList_lst, fList_tup, fList_scr, fRepr_int, fRepr_bl, fRepr_non, fRepr_tup, fRepr_lst, isTy, isNon_non, isNon_int, isNon_bl, isNon_str, isNon_tup, isNon_lst, eqD_int, eqD_str, eqD_bl, eqD_nn, eqD_ni, eqD_in, eqD_nt, eqD_tn, eqD_tup, eqD_lst, eqDL_nil, eqDL_nc, eqDL_cn, eqDL_cons, List.any_cons, List.any_nil, List.length_cons, List.length_nil, List.cons_append, List.nil_append, List.getElem?_cons_zero, List.getElem?_cons_succ, List.set_cons_zero, List.set_cons_succ, Option.map_some, Nat.reduceAdd, Nat.reduceSub, atI_lit, ixN_lit, atI_m1, Nat.reduceLT, reduceIte, Nat.reduceLeDiff, true_and, and_true, List.append_nil, List.map_cons, List.map_nil, Bool.not_eq_true', Int.cast_ofNat_Int, Int.reduceLT, Int.reduceLE, decide_true, decide_false, Bool.false_eq_true, Bool.not_true, Bool.not_false, cut_none, cut_to, cut_from, cut_fromto, List.take_succ_cons, List.take_zero, List.drop_succ_cons, List.drop_zero, List.take_nil, List.drop_nil, bls_nil, bls_cons, nums_nil, nums_cons, all_nil', all_cons', any_nil', any_cons', Bool.and_true, Bool.true_and, Bool.or_false, Bool.false_or, Bool.and_false, Bool.false_and, Bool.true_or, Bool.or_true, Int.reduceToNat, Int.reduceAdd, Int.reduceSub, Int.reduceMul, Int.reduceMod, Int.reduceNeg, Int.reducePow, Int.reduceEq, Int.reduceNe, Int.one_mul, Int.neg_mul, ne_eq, not_true_eq_false, not_false_eq_true, repD_succ, repD_zero, Nat.reduceMul, Bool.not_not, eq_self, and_self, false_implies, true_implies, implies_true, Nat.reduceEqDiff, intsL]); try rewrite [callS_eq])
local macro_rules | `(tactic| walk_at "wkn") => `(tactic| (try simp (maxSteps := 2000000) (dsimp := false) (implicitDefEqProofs := false) only [↓h_var, ↓h_c, ↓h_op, ↓h_neg, ↓h_isN, ↓h_notN, ↓h_tst, ↓h_and, ↓h_or, ↓h_not, ↓h_andV, ↓h_orV, ↓h_notV, ↓h_if, ↓h_anil, ↓h_acons, ↓h_atank, ↓h_astar, ↓h_tup, ↓h_lst, ↓h_call, ↓h_callX, ↓h_tupIx, ↓h_raise1, ↓h_raise0, ↓h_isE, ↓h_givE, ↓h_mt, ↓h_callT, ↓h_callP, ↓h_aApp, ↓h_blt, ↓h_psome, ↓h_slq, ↓h_rev, ↓h_dct0, ↓h_dct1, ↓h_dctIx, ↓h_isi, ↓h_iQ, ↓h_iR1, ↓h_iR2, ↓h_iR3, ↓h_iZA, ↓h_iZ3, ↓h_iEn, ↓h_seq, ↓h_ret, ↓h_expr, ↓h_sif, ↓h_asg, ↓h_gN, ↓h_gsnil, ↓h_gscons, ↓h_gTL, ↓h_gT, ↓h_par, ↓h_par3, ↓h_parO, ↓h_parF, ↓h_parC, ↓h_par3C, ↓h_own, ↓h_ownC, ↓h_frz, ↓h_frq, ↓h_app, ↓h_view, ↓h_viewT, ↓h_gOs, ↓h_for, ↓h_lc, ↓h_lcO, ↓h_yes, ↓oF_pd, ↓orVK_t, ↓andVK_f, ↓orK_t, ↓andK_f, varK_go, tixK_go, exK_0, exK_1, gvK_1, mtK_go, raiK_go, iteB_t, iteB_f, iteB_not, iteB_tt, setE_go, pdK_c, pdK_t, negK_go, bolK_go, tstK_go, andK_t, andK_f, andK_p, andK_q, orK_t, orK_f, orK_p, orK_q, andVK_t, andVK_f, andVK_p, andVK_q, orVK_t, orVK_f, orVK_p, orVK_q, notVK_go, tnkK_go, sqK_go, vals_val, vals_nil, callN_go, callP_go, lstK_go, opK_go, intK_go, blqK_go, r1K_go, r2K_go, r3K_go, zpK_go, zp3K_go, parK_go, parK3_go, ownK_o, ownK_v, ownK_n, natK_go, forK_nil, lcK_nil, enK_go, h_cN, h_cT, setAll_nil, setAll_cons, wipe_nil, wipe_cons, okN_t, okN_non, okN_int, okN_bl, okN_tup, okN_lst, okL_nil, okL_cons, fReprE_lst, fReprE_tup, fReprE_int, fReprE_bl, fReprE_non, fCntT_lst, fIdxT_lst, cntC_some, idxC_some, ixR2_some, idxI_t, idxI_f, cntT_nil, cntT_t, cntT_f, fSortT_lst, stR_some, fSortS_lst, stS_some, fSortI_lst, siR_some, fLtU_int, fLtU_tup, ltR_some, tups_nil, tups_c, tpC_some, fBitL_int, permL_n, permL_c, pmC_s, fMaxL_lst, mxR_some, isTy_dct, isNon_dct, fIs_bl, fIsn_bl, bIs_t, bIs_f, bIs_s, rev_lst, rev_tup, rev_scr, List.reverse_cons, List.reverse_nil, fAdd_int, fAdd_lst, fAdd_tup, fAdd_str, fSub_int, fSub_bl, fMul_int, fMul_lst, fDiv_int, fMod_int, fPow_int, fShl_int, fLt_int, fLe_int, fGt_int, fGe_int, fEq_int, fEq_str, fEq_bl, fEq_tup, fEq_lst, fEq_tn, fEq_nt, fEq_nn, fEq_it, fEq_ti, fEq_in, fEq_ni, fNe_in, fNe_ni, fNe_int, fNe_str, fNe_bl, fNe_tup, fNe_lst, fNe_tn, fNe_nt, fNe_nn, fInS_lst, fInS_tup, fNotInS_lst, fNotInS_tup, zip2_lst, zip2_tup, zip3_tup, zipD3_cons, zipD3_nil, zipD_nil, zipD_cons, enD, noL_int, noL_bl, noL_str, noL_non, noL_tup, noLL_nil, noLL_cons, fIx_tup, fIx_lst, fIx_scr, ixR_some, it_tup, it_lst, cutq_lst, cutq_scr, cutq_tup, fLen_tup, fLen_lst, fLen_scr, fI1_int, fI2_int, fInt_int, fInt_bl, fSqrt_isq, fDivmod_int, fAll_lst, fAny_lst, fSum_lst, blR_some, nuR_some, fTuple_lst, fTuple_tup, fList_lst, fList_tup, fList_scr, fRepr_int, fRepr_bl, fRepr_non, fRepr_tup, fRepr_lst, isTy, isNon_non, isNon_int, isNon_bl, isNon_str, isNon_tup, isNon_lst, eqD_int, eqD_str, eqD_bl, eqD_nn, eqD_ni, eqD_in, eqD_nt, eqD_tn, eqD_tup, eqD_lst, eqDL_nil, eqDL_nc, eqDL_cn, eqDL_cons, List.any_cons, List.any_nil, List.length_cons, List.length_nil, List.cons_append, List.nil_append, List.getElem?_cons_zero, List.getElem?_cons_succ, List.set_cons_zero, List.set_cons_succ, Option.map_some, Nat.reduceAdd, Nat.reduceSub, atI_lit, ixN_lit, atI_m1, Nat.reduceLT, reduceIte, Nat.reduceLeDiff, true_and, and_true, List.append_nil, List.map_cons, List.map_nil, Bool.not_eq_true', Int.cast_ofNat_Int, Int.reduceLT, Int.reduceLE, decide_true, decide_false, Bool.false_eq_true, Bool.not_true, Bool.not_false, cut_none, cut_to, cut_from, cut_fromto, List.take_succ_cons, List.take_zero, List.drop_succ_cons, List.drop_zero, List.take_nil, List.drop_nil, bls_nil, bls_cons, nums_nil, nums_cons, all_nil', all_cons', any_nil', any_cons', Bool.and_true, Bool.true_and, Bool.or_false, Bool.false_or, Bool.and_false, Bool.false_and, Bool.true_or, Bool.or_true, Int.reduceToNat, Int.reduceAdd, Int.reduceSub, Int.reduceMul, Int.reduceMod, Int.reduceNeg, Int.reducePow, Int.reduceEq, Int.reduceNe, Int.one_mul, Int.neg_mul, ne_eq, not_true_eq_false, not_false_eq_true, repD_succ, repD_zero, Nat.reduceMul, Bool.not_not, eq_self, and_self, false_implies, true_implies, implies_true, Nat.reduceEqDiff]); try rewrite [callS_eq])

def TkOk (T : Tk) : Prop := ∃ a b c, T = [.int a, .int b, .int c] ∧ 0 ≤ a ∧ 0 ≤ b
set_option exponentiation.threshold 20000
theorem lit_mul {i j : Int} (h : i.natAbs < 2 ^ 64) : MulOk i j := .inl (.inl h)
theorem lit_mul' {i j : Int} (h : j.natAbs < 2 ^ 64) : MulOk i j := .inl (.inr h)
theorem lit_div {i j : Int} (h : 0 < j) (q : j.natAbs < 2 ^ 64) : DivOk i j := ⟨h, Nat.lt_of_lt_of_le q (Nat.pow_le_pow_right (by decide) (by decide))⟩
theorem lit_dm {i j : Int} (h : 0 < j) (q : j.natAbs < 2 ^ 64) : DmOk i j := ⟨h, Nat.lt_of_lt_of_le q (Nat.pow_le_pow_right (by decide) (by decide))⟩
theorem mul_self_nonneg' (a : Int) : 0 ≤ a * a := by
  rcases Int.le_total 0 a with h | h
  · exact Int.mul_nonneg h h
  · exact Int.mul_nonneg_of_nonpos_of_nonpos h h
theorem imul_self_pos {a : Int} (h : a ≠ 0) : 0 < a * a := by
  rcases Int.lt_or_gt_of_ne h with q | q
  · exact Int.mul_pos_of_neg_of_neg q q
  · exact Int.mul_pos q q
theorem lite_lst {xs : List D} (h : D.liteL xs) : (D.lst xs).lite := by simpa only [D.lite] using h
theorem lite_tup {xs : List D} (h : D.liteL xs) : (D.tup xs).lite := by simpa only [D.lite] using h
theorem liteL_nil : D.liteL [] := by simp only [D.liteL]
theorem liteL_cons {x : D} {xs : List D} (h : x.lite) (q : D.liteL xs) : D.liteL (x :: xs) := by simp only [D.liteL]; exact ⟨h, q⟩
abbrev Cx2 := Int × Int
def Cz (n : Nat) (z : Cx2) : Prop := Sz n z.1 ∧ Sz n z.2
def cadd (z w : Cx2) : Cx2 := (z.1 + w.1, z.2 + w.2)
def csub (z w : Cx2) : Cx2 := (z.1 - w.1, z.2 - w.2)
def cmul (z w : Cx2) : Cx2 := (z.1 * w.1 - z.2 * w.2, z.1 * w.2 + z.2 * w.1)
def cconj (z : Cx2) : Cx2 := (z.1, -z.2)
def cnrm (z : Cx2) : Int := z.1 * z.1 + z.2 * z.2
theorem Cz.mono {m n : Nat} {z : Cx2} (h : Cz m z) (l : m ≤ n) : Cz n z := ⟨h.1.mono l, h.2.mono l⟩
theorem Cz.add {n : Nat} {z w : Cx2} (h : Cz n z) (q : Cz n w) : Cz (n + 1) (cadd z w) := ⟨by simpa [cadd] using h.1.add q.1, by simpa [cadd] using h.2.add q.2⟩
theorem Cz.sub {n : Nat} {z w : Cx2} (h : Cz n z) (q : Cz n w) : Cz (n + 1) (csub z w) := ⟨by simpa [csub] using h.1.sub q.1, by simpa [csub] using h.2.sub q.2⟩
theorem Cz.mul {m n : Nat} {z w : Cx2} (h : Cz m z) (q : Cz n w) : Cz (m + n + 1) (cmul z w) := ⟨by simpa [cmul] using (h.1.mul q.1).sub (h.2.mul q.2), by simpa [cmul] using (h.1.mul q.2).add (h.2.mul q.1)⟩
theorem Cz.conj {n : Nat} {z : Cx2} (h : Cz n z) : Cz n (cconj z) := ⟨h.1, h.2.neg⟩
theorem Cz.nrm {n : Nat} {z : Cx2} (h : Cz n z) : Sz (n + n + 1) (cnrm z) := by simpa [cnrm] using (h.1.mul h.1).add (h.2.mul h.2)
theorem lite_cx {n : Nat} {a b : Int} (h : Cz n (a, b)) (l : n ≤ 1900) : (D.tup [.int a, .int b]).lite := lite_tup (liteL_cons (h.1.lite l) (liteL_cons (h.2.lite l) liteL_nil))
theorem w_is_whole {T : Tk} {i : Int} {k : KD} (h : k (.bl true) T) : sm_is_whole [.val (.int i)] T k := by
  rw [e_is_whole, b_is_whole]
  walk_at "ev"
  exact h
theorem w_are_wholes_2 {T : Tk} {i j : Int} {k : KD} (h : k (.bl true) T) : sm_are_wholes [.val (.tup [.int i, .int j]), .val (.int 2)] T k := by
  rw [e_are_wholes, b_are_wholes]
  walk_at "ev"
  refine w_is_whole (w_is_whole ?_)
  walk_at "ev"
  exact h
theorem w_is_complex {T : Tk} {a b : Int} {k : KD} (h : k (.bl true) T) : sm_is_complex [.val (.tup [.int a, .int b])] T k := by
  rw [e_is_complex, b_is_complex]
  walk_at "ev"
  exact w_are_wholes_2 h
theorem w_plus {T : Tk} {a b c d : Int} {k : KD} (h : k (.tup [.int (a + c), .int (b + d)]) T) : sm_plus [.val (.tup [.int a, .int b]), .val (.tup [.int c, .int d])] T k := by
  rw [e_plus, b_plus]
  walk_at "ev"
  exact h
theorem w_minus {T : Tk} {a b c d : Int} {k : KD} (h : k (.tup [.int (a - c), .int (b - d)]) T) : sm_minus [.val (.tup [.int a, .int b]), .val (.tup [.int c, .int d])] T k := by
  rw [e_minus, b_minus]
  walk_at "ev"
  exact h
theorem w_times {T : Tk} {a b c d : Int} {k : KD} (hz : Cz 100000 (a, b)) (hw : Cz 100000 (c, d)) (h : ∀ p, p = cmul (a, b) (c, d) → k (.tup [.int p.1, .int p.2]) T) : sm_times [.val (.tup [.int a, .int b]), .val (.tup [.int c, .int d])] T k := by
  rw [e_times, b_times]
  walk_at "ev"
  exact ⟨hz.1.mulOk hw.1 (by decide) (by decide), hz.2.mulOk hw.2 (by decide) (by decide), hz.1.mulOk hw.2 (by decide) (by decide), hz.2.mulOk hw.1 (by decide) (by decide), h _ rfl⟩
theorem w_turned_over {T : Tk} {a b : Int} {k : KD} (h : k (.tup [.int a, .int (-b)]) T) : sm_turned_over [.val (.tup [.int a, .int b])] T k := by
  rw [e_turned_over, b_turned_over]
  walk_at "ev"
  exact h
theorem w_square_size {T : Tk} {a b : Int} {k : KD} (hz : Cz 100000 (a, b)) (h : k (.int (cnrm (a, b))) T) : sm_square_size [.val (.tup [.int a, .int b])] T k := by
  rw [e_square_size, b_square_size]
  walk_at "ev"
  exact ⟨hz.1.mulOk hz.1 (by decide) (by decide), hz.2.mulOk hz.2 (by decide) (by decide), h⟩
def cunit (z : Cx2) : Cx2 := if 0 < z.1 ∧ 0 ≤ z.2 then (1, 0) else if 0 < -z.2 ∧ 0 ≤ z.1 then (0, 1) else if 0 < -z.1 ∧ 0 ≤ -z.2 then (-1, 0) else (0, -1)
theorem cz_unit {N : Nat} (hN : 1 ≤ N) {a b : Int} (ha : -1 ≤ a ∧ a ≤ 1) (hb : -1 ≤ b ∧ b ≤ 1) : Cz N (a, b) := by
  have t : (2 : Nat) ^ 1 ≤ 2 ^ N := Nat.pow_le_pow_right (by decide) hN
  constructor
  · show a.natAbs < 2 ^ N; omega
  · show b.natAbs < 2 ^ N; omega
theorem w_unit_for {T : Tk} {a b : Int} {k : KD} (hz : Cz 100000 (a, b)) (h : ∀ p, p = cunit (a, b) → k (.tup [.int p.1, .int p.2]) T) : sm_unit_for [.val (.tup [.int a, .int b])] T k := by
  rw [e_unit_for, b_unit_for, k_UNITS]
  walk_at "ev"
  have h1 : cmul (a, b) (1, 0) = (a, b) := by simp [cmul]
  have h2 : cmul (a, b) (0, 1) = (-b, a) := by simp [cmul]
  have h3 : cmul (a, b) (-1, 0) = (-a, -b) := by simp [cmul]
  have h0 := h _ rfl
  unfold cunit at h0
  simp only at h0
  refine w_times hz (cz_unit (by decide) (by decide) (by decide)) ?_
  rintro _ rfl
  rw [h1]
  walk_at "ev"
  split
  · rename_i c1; rw [if_pos c1] at h0; exact h0
  rename_i c1
  rw [if_neg c1] at h0
  refine w_times hz (cz_unit (by decide) (by decide) (by decide)) ?_
  rintro _ rfl
  rw [h2]
  walk_at "ev"
  split
  · rename_i c2; rw [if_pos c2] at h0; exact h0
  rename_i c2
  rw [if_neg c2] at h0
  refine w_times hz (cz_unit (by decide) (by decide) (by decide)) ?_
  rintro _ rfl
  rw [h3]
  walk_at "ev"
  split
  · rename_i c3; rw [if_pos c3] at h0; exact h0
  · rename_i c3; rw [if_neg c3] at h0; exact h0
def cdivd (z w : Cx2) : Option Cx2 := if (cmul z (cconj w)).1 % cnrm w = 0 ∧ (cmul z (cconj w)).2 % cnrm w = 0 then some ((cmul z (cconj w)).1 / cnrm w, (cmul z (cconj w)).2 / cnrm w) else none
def ocx : Option Cx2 → D
  | some z => .tup [.int z.1, .int z.2]
  | none => .non
theorem w_divided {T : Tk} {a b c d : Int} {k : KD} (hz : Cz 4000 (a, b)) (hw : Cz 4000 (c, d)) (h0 : 0 < cnrm (c, d)) (h : k (ocx (cdivd (a, b) (c, d))) T) : sm_divided [.val (.tup [.int a, .int b]), .val (.tup [.int c, .int d])] T k := by
  rw [e_divided, b_divided]
  walk_at "ev"
  refine w_turned_over ?_
  walk_at "ev"
  refine w_times (hz.mono (by decide)) (hw.conj.mono (by decide)) ?_
  rintro p rfl
  walk_at "ev"
  refine w_square_size (hw.mono (by decide)) ?_
  walk_at "ev"
  have hn : Sz 8001 (cnrm (c, d)) := hw.nrm
  unfold cdivd at h
  have e1 : cconj (c, d) = (c, -d) := rfl
  rw [e1] at h
  refine ⟨h0, ?_⟩
  by_cases q1 : (cmul (a, b) (c, -d)).1 % cnrm (c, d) = 0
  · rw [if_neg (not_not_intro q1)]
    refine ⟨h0, ?_⟩
    by_cases q2 : (cmul (a, b) (c, -d)).2 % cnrm (c, d) = 0
    · rw [if_neg (not_not_intro q2)]
      rw [if_pos ⟨q1, q2⟩] at h
      exact ⟨hn.divOk (by decide) h0, hn.divOk (by decide) h0, h⟩
    · rw [if_pos q2]
      rw [if_neg fun e => q2 e.2] at h
      exact h
  · rw [if_pos q1]
    rw [if_neg fun e => q1 e.1] at h
    exact h
theorem cnrm_pos {w : Cx2} (h : ¬(w.1 = 0 ∧ w.2 = 0)) : 0 < cnrm w := by
  unfold cnrm
  have h1 : 0 ≤ w.1 * w.1 := mul_self_nonneg' w.1
  have h2 : 0 ≤ w.2 * w.2 := mul_self_nonneg' w.2
  by_cases q : w.1 = 0
  · have : w.2 ≠ 0 := fun e => h ⟨q, e⟩
    have := imul_self_pos this
    omega
  · have := imul_self_pos q
    omega
theorem sz_0 {n : Nat} : Sz n 0 := Nat.two_pow_pos n

def gcdL (g : Int) : List Int → Int
  | [] => g | n :: r => gcdL (iGcd g n) r
theorem iGcd_nn (a b : Int) : 0 ≤ iGcd a b := Int.natCast_nonneg _
theorem gcdL_nn : ∀ (ns : List Int) (g : Int), 0 ≤ g → 0 ≤ gcdL g ns
  | [], _, h => h
  | n :: r, g, _ => gcdL_nn r _ (iGcd_nn g n)
theorem iGcd_dvd_l (a b : Int) : iGcd a b ∣ a := Int.natAbs_dvd_natAbs.mp (by rw [Int.natAbs_natCast]; exact Nat.gcd_dvd_left _ _)
theorem iGcd_dvd_r (a b : Int) : iGcd a b ∣ b := Int.natAbs_dvd_natAbs.mp (by rw [Int.natAbs_natCast]; exact Nat.gcd_dvd_right _ _)
theorem gcdL_dvd0 : ∀ (ns : List Int) (g : Int), gcdL g ns ∣ g
  | [], g => Int.dvd_refl g
  | n :: r, g => Int.dvd_trans (gcdL_dvd0 r _) (iGcd_dvd_l g n)
theorem gcdL_dvd : ∀ (ns : List Int) (g : Int), ∀ n ∈ ns, gcdL g ns ∣ n
  | [], _, _, h => by simp at h
  | m :: r, g, n, h => by
    rcases List.mem_cons.mp h with rfl | h
    · exact Int.dvd_trans (gcdL_dvd0 r _) (iGcd_dvd_r g n)
    · exact gcdL_dvd r _ n h
theorem dvd_iGcd {d a b : Int} (h : d ∣ a) (q : d ∣ b) : d ∣ iGcd a b := by
  have h' := Int.natAbs_dvd_natAbs.mpr h
  have q' := Int.natAbs_dvd_natAbs.mpr q
  exact Int.natAbs_dvd_natAbs.mp (by rw [Int.natAbs_natCast]; exact Nat.dvd_gcd h' q')
theorem dvd_gcdL : ∀ (ns : List Int) (g d : Int), d ∣ g → (∀ n ∈ ns, d ∣ n) → d ∣ gcdL g ns
  | [], _, _, h, _ => h
  | m :: r, g, d, h, q => dvd_gcdL r _ d (dvd_iGcd h (q m (by simp))) fun n hn => q n (by simp [hn])
theorem gcdL_pos {ns : List Int} {n : Int} (hn : n ∈ ns) (h0 : n ≠ 0) : 0 < gcdL 0 ns := by
  have h1 := gcdL_nn ns 0 (Int.le_refl _)
  have h2 := gcdL_dvd ns 0 n hn
  rcases Int.lt_or_eq_of_le h1 with q | q
  · exact q
  · rw [← q] at h2
    exact absurd (Int.zero_dvd.mp h2) h0
def lowL (ns : List Int) : List Int := ns.map (· / gcdL 0 ns)
/-- a common divisor is no longer than a number it divides -/
theorem sz_dvd {m : Nat} {g n : Int} (h : g ∣ n) (h0 : n ≠ 0) (s : Sz m n) : Sz m g := by
  have := Nat.le_of_dvd (Int.natAbs_pos.mpr h0) (Int.natAbs_dvd_natAbs.mpr h)
  unfold Sz at *
  omega
theorem lc_div {A : Option SV} {B : En} {g : Int} {K : List D → Tk → Prop} (hg : ∀ i, DivOk i g) : ∀ (ns : List Int) (c : Option SV) (acc : List D) (T : Tk), K (acc ++ (ns.map (· / g)).map D.int) T →
    lcD (A :: some (.val (.int g)) :: c :: B) (cN 2) dYes (dOp (oF fDiv) (dVar 2) (dVar 1)) K (ns.map D.int) acc T
  | [], c, acc, T, h => by
    rw [List.map_nil, List.map_nil, List.append_nil] at h
    exact h
  | n :: ns, c, acc, T, h => by
    rw [List.map_cons]
    walk_at "ev"
    refine ⟨hg _, lc_div hg ns _ _ _ ?_⟩
    rw [List.append_assoc]
    exact h
theorem div_loop {A : Option SV} {F B C : En → Tk → Prop} {R : KD} {T : Tk} : ∀ (ns : List Int) (g : Int) (c : Option SV), (∀ c', F [A, some (.val (.int (gcdL g ns))), c'] T) →
    forL (gN 2) (sAsg (dBlt (oG (fI2 iGcd)) (aCons (dVar 1) (aCons (dVar 2) (aNil)))) (gN 1)) { nx := F, rt := R, bk := B, ct := C } (ns.map D.int) [A, some (.val (.int g)), c] T
  | [], g, c, h => h c
  | n :: ns, g, c, h => by
    rw [List.map_cons]
    walk_at "ev"
    exact div_loop ns _ _ h
theorem w_divisor_of {T : Tk} {ns : List Int} {k : KD} (hl : ns.length ≤ 1000000) (h : k (.int (gcdL 0 ns)) T) : sm_divisor_of [.val (.tup (ns.map D.int))] T k := by
  rw [e_divisor_of, b_divisor_of]
  walk_at "ev"
  refine ⟨by simpa using hl, ?_⟩
  refine div_loop ns 0 _ fun c => ?_
  walk_at "ev"
  exact h
theorem w_lowest {T : Tk} {ns : List Int} {k : KD} (hl : ns.length ≤ 1000000) {n : Int} (hn : n ∈ ns) (h0 : n ≠ 0) (hs : Sz 9000 n) (h : k (.tup ((lowL ns).map D.int)) T) : sm_lowest [.val (.tup (ns.map D.int))] T k := by
  rw [e_lowest, b_lowest]
  walk_at "ev"
  refine w_divisor_of hl ?_
  walk_at "ev"
  refine ⟨by simpa using hl, ?_⟩
  have hp := gcdL_pos hn h0
  have hd := sz_dvd (gcdL_dvd ns 0 n hn) h0 hs
  refine lc_div (fun i => hd.divOk (Nat.le_refl _) hp) ns _ _ _ ?_
  walk_at "ev"
  exact h
theorem w_is_lowest {T : Tk} {ns : List Int} {k : KD} (hl : ns.length ≤ 1000000) (h : k (.bl (decide (gcdL 0 ns = 1))) T) : sm_is_lowest [.val (.tup (ns.map D.int))] T k := by
  rw [e_is_lowest, b_is_lowest]
  walk_at "ev"
  refine w_divisor_of hl ?_
  walk_at "ev"
  exact h
theorem iGcd_comm (a b : Int) : iGcd a b = iGcd b a := by show ((Nat.gcd _ _ : Nat) : Int) = ((Nat.gcd _ _ : Nat) : Int); rw [Nat.gcd_comm]
theorem iGcd_mod {a b : Int} (ha : 0 ≤ a) (hb : 0 < b) : iGcd b (a % b) = iGcd a b := by
  obtain ⟨x, rfl⟩ := Int.eq_ofNat_of_zero_le ha
  obtain ⟨y, rfl⟩ := Int.eq_ofNat_of_zero_le (Int.le_of_lt hb)
  show ((Nat.gcd _ _ : Nat) : Int) = ((Nat.gcd _ _ : Nat) : Int)
  rw [← Int.natCast_emod, Int.natAbs_natCast, Int.natAbs_natCast, Int.natAbs_natCast, Nat.gcd_comm x y, Nat.gcd_rec y x, Nat.gcd_comm]
theorem iGcd_zero {a : Int} (h : 0 ≤ a) : iGcd a 0 = a := by
  show ((Nat.gcd _ _ : Nat) : Int) = a
  rw [Int.natAbs_zero, Nat.gcd_zero_right]
  omega
theorem iGcd_abs (a b : Int) : iGcd a (iAbs b) = iGcd a b := by
  show ((Nat.gcd _ _ : Nat) : Int) = ((Nat.gcd _ _ : Nat) : Int)
  have : (iAbs b).natAbs = b.natAbs := by unfold iAbs; split <;> omega
  rw [this]
theorem iAbs_nn (a : Int) : 0 ≤ iAbs a := by unfold iAbs; split <;> omega
theorem gcdL_scale {c : Int} (hc : 0 ≤ c) : ∀ (ns : List Int) (g : Int), 0 ≤ g → gcdL (c * g) (ns.map (c * ·)) = c * gcdL g ns
  | [], g, _ => rfl
  | n :: r, g, hg => by
    rw [List.map_cons]
    show gcdL (iGcd (c * g) (c * n)) _ = c * gcdL (iGcd g n) r
    have e : iGcd (c * g) (c * n) = c * iGcd g n := by
      show ((Nat.gcd _ _ : Nat) : Int) = c * ((Nat.gcd _ _ : Nat) : Int)
      rw [Int.natAbs_mul, Int.natAbs_mul, Nat.gcd_mul_left]
      rw [Int.natCast_mul]
      congr 1
      omega
    rw [e]
    exact gcdL_scale hc r _ (iGcd_nn _ _)
theorem lowL_scale {c : Int} (hc : 0 < c) (ns : List Int) : lowL (ns.map (c * ·)) = lowL ns := by
  unfold lowL
  have e := gcdL_scale (Int.le_of_lt hc) ns 0 (Int.le_refl _)
  rw [Int.mul_zero] at e
  rw [e, List.map_map]
  apply List.map_congr_left
  intro n _
  show c * n / (c * gcdL 0 ns) = n / gcdL 0 ns
  exact Int.mul_ediv_mul_of_pos _ _ hc
theorem lowL_same {c d : Int} (hc : 0 < c) (hd : 0 < d) {ns ms : List Int} (h : ns.map (c * ·) = ms.map (d * ·)) : lowL ns = lowL ms := by rw [← lowL_scale hc ns, h, lowL_scale hd ms]
theorem lowL_back {ns : List Int} : (lowL ns).map (gcdL 0 ns * ·) = ns := by
  unfold lowL
  rw [List.map_map]
  conv => rhs; rw [← List.map_id ns]
  apply List.map_congr_left
  intro n hn
  exact Int.mul_ediv_cancel' (gcdL_dvd ns 0 n hn)
theorem lowL_gcd {ns : List Int} (h : 0 < gcdL 0 ns) : gcdL 0 (lowL ns) = 1 := by
  have e := gcdL_scale (Int.le_of_lt h) (lowL ns) 0 (Int.le_refl _)
  rw [Int.mul_zero, lowL_back] at e
  have e' : gcdL 0 ns * 1 = gcdL 0 ns * gcdL 0 (lowL ns) := by rw [Int.mul_one]; exact e
  exact (Int.eq_of_mul_eq_mul_left (by omega) e').symm
theorem lowL_one {ns : List Int} (h : gcdL 0 ns = 1) : lowL ns = ns := by
  unfold lowL
  rw [h]
  conv => rhs; rw [← List.map_id ns]
  apply List.map_congr_left
  intro n _
  exact Int.ediv_one n
theorem gcd_uniq {c d : Int} (hc : 0 < c) (hd : 0 < d) {ns ms : List Int} (h1 : gcdL 0 ns = 1) (h2 : gcdL 0 ms = 1) (h : ns.map (c * ·) = ms.map (d * ·)) : ns = ms := by
  rw [← lowL_one h1, ← lowL_one h2]
  exact lowL_same hc hd h
abbrev P3 := Int × Int × Int
def P3.d (q : P3) : D := .tup [.int q.1, .int q.2.1, .int q.2.2]
/-- a place by its two rational coordinates -/
structure PlQ (n : Nat) (q : P3) (u v : Rat) : Prop where
  pos : 0 < q.2.2
  one : gcdL 0 [q.1, q.2.1, q.2.2] = 1
  s1 : Sz n q.1
  s2 : Sz n q.2.1
  s3 : Sz n q.2.2
  e1 : (q.1 : Rat) = u * (q.2.2 : Rat)
  e2 : (q.2.1 : Rat) = v * (q.2.2 : Rat)
theorem PlQ.mono {m n : Nat} {q : P3} {u v : Rat} (h : PlQ m q u v) (l : m ≤ n) : PlQ n q u v := ⟨h.pos, h.one, h.s1.mono l, h.s2.mono l, h.s3.mono l, h.e1, h.e2⟩
theorem cast_inj {a b : Int} (h : (a : Rat) = (b : Rat)) : a = b := Rat.intCast_inj.mp h
theorem PlQ.uniq {m n : Nat} {p q : P3} {u v : Rat} (h : PlQ m p u v) (h' : PlQ n q u v) : p = q := by
  obtain ⟨a, b, c⟩ := p
  obtain ⟨a', b', c'⟩ := q
  obtain ⟨p1, o1, _, _, _, x1, y1⟩ := h
  obtain ⟨p2, o2, _, _, _, x2, y2⟩ := h'
  simp only at *
  have q1 : c' * a = c * a' := cast_inj (by push_cast; rw [x1, x2]; grind)
  have q2 : c' * b = c * b' := cast_inj (by push_cast; rw [y1, y2]; grind)
  have := gcd_uniq p2 p1 o1 o2 (show [a, b, c].map (c' * ·) = [a', b', c'].map (c * ·) by simp [q1, q2, Int.mul_comm])
  simpa using this
theorem plq_low {n : Nat} {x y z : Int} {u v : Rat} (hz : 0 < z) (s1 : Sz n x) (s2 : Sz n y) (s3 : Sz n z) (e1 : (x : Rat) = u * z) (e2 : (y : Rat) = v * z) : PlQ n (x / gcdL 0 [x, y, z], y / gcdL 0 [x, y, z], z / gcdL 0 [x, y, z]) u v := by
  have hp : 0 < gcdL 0 [x, y, z] := gcdL_pos (n := z) (by simp) (by omega)
  have hb := lowL_back (ns := [x, y, z])
  have ho := lowL_gcd hp
  unfold lowL at hb ho
  generalize gcdL 0 [x, y, z] = g at *
  simp only [List.map_cons, List.map_nil, List.cons.injEq, and_true] at hb ho
  obtain ⟨b1, b2, b3⟩ := hb
  have gz : (g : Rat) ≠ 0 := fun e => by have := cast_inj (b := 0) e; omega
  have c1 : (g : Rat) * ((x / g : Int) : Rat) = x := by rw [← Rat.intCast_mul, b1]
  have c2 : (g : Rat) * ((y / g : Int) : Rat) = y := by rw [← Rat.intCast_mul, b2]
  have c3 : (g : Rat) * ((z / g : Int) : Rat) = z := by rw [← Rat.intCast_mul, b3]
  refine ⟨?_, ho, s1.ediv, s2.ediv, s3.ediv, ?_, ?_⟩
  · rcases Int.lt_or_le 0 (z / g) with q | q
    · exact q
    · have := Int.mul_nonpos_of_nonneg_of_nonpos (Int.le_of_lt hp) q
      omega
  · simp only; generalize ((x / g : Int) : Rat) = X at *; generalize ((z / g : Int) : Rat) = Z at *; grind
  · simp only; generalize ((y / g : Int) : Rat) = X at *; generalize ((z / g : Int) : Rat) = Z at *; grind
theorem w_low3 {T : Tk} {n : Nat} {x y z : Int} {u v : Rat} {k : KD} (hz : 0 < z) (s1 : Sz n x) (s2 : Sz n y) (s3 : Sz n z) (hn : n ≤ 9000) (e1 : (x : Rat) = u * z) (e2 : (y : Rat) = v * z) (h : ∀ q : P3, PlQ n q u v → k (.tup [.int q.1, .int q.2.1, .int q.2.2]) T) : sm_lowest [.val (.tup [.int x, .int y, .int z])] T k :=
  w_lowest (ns := [x, y, z]) (by simp) (n := z) (by simp) (by omega) (s3.mono hn) (h _ (plq_low hz s1 s2 s3 e1 e2))
theorem PlQ.ne {n : Nat} {p : P3} {u v : Rat} (h : PlQ n p u v) : (p.2.2 : Rat) ≠ 0 := fun e => by have := cast_inj (b := 0) e; have := h.pos; omega
theorem PlQ.e1' {n : Nat} {p : P3} {u v : Rat} (h : PlQ n p u v) : ((p.1 : Int) : Rat) = u * ((p.2.2 : Int) : Rat) := h.e1
theorem lite_pl {n : Nat} {p : P3} {u v : Rat} (h : PlQ n p u v) (l : n ≤ 1900) : (D.tup [.int p.1, .int p.2.1, .int p.2.2]).lite := lite_tup (liteL_cons (h.s1.lite l) (liteL_cons (h.s2.lite l) (liteL_cons (h.s3.lite l) liteL_nil)))
theorem plq_cast {n : Nat} {p : P3} {u v : Rat} (h : PlQ n p u v) : ((p.1 : Int) : Rat) = u * ((p.2.2 : Int) : Rat) ∧ ((p.2.1 : Int) : Rat) = v * ((p.2.2 : Int) : Rat) ∧ 0 < p.2.2 := ⟨h.e1, h.e2, h.pos⟩
/-- a fraction by its value -/
structure FrQ (n : Nat) (q : Int × Int) (u : Rat) : Prop where
  pos : 0 < q.2
  one : gcdL 0 [q.1, q.2] = 1
  s1 : Sz n q.1
  s2 : Sz n q.2
  e1 : (q.1 : Rat) = u * (q.2 : Rat)
theorem FrQ.uniq {m n : Nat} {p q : Int × Int} {u : Rat} (h : FrQ m p u) (h' : FrQ n q u) : p = q := by
  obtain ⟨a, c⟩ := p
  obtain ⟨a', c'⟩ := q
  obtain ⟨p1, o1, _, _, x1⟩ := h
  obtain ⟨p2, o2, _, _, x2⟩ := h'
  simp only at *
  have q1 : c' * a = c * a' := cast_inj (by push_cast; rw [x1, x2]; grind)
  have := gcd_uniq p2 p1 o1 o2 (show [a, c].map (c' * ·) = [a', c'].map (c * ·) by simp [q1, Int.mul_comm])
  simpa using this
def fnz : List Int → Int
  | [] => 0
  | x :: r => if x = 0 then fnz r else x
abbrev R4 := Int × Int × Int × Int
def bnd (r : R4) : Int := r.2.1 * r.2.1 + r.2.2.1 * r.2.2.1 - 4 * r.1 * r.2.2.2
structure Rw (n : Nat) (r : R4) : Prop where
  one : gcdL 0 [r.1, r.2.1, r.2.2.1, r.2.2.2] = 1
  bend : 0 < bnd r
  s1 : Sz n r.1
  s2 : Sz n r.2.1
  s3 : Sz n r.2.2.1
  s4 : Sz n r.2.2.2
structure Rd (n : Nat) (r : R4) : Prop extends Rw n r where
  up : 0 < fnz [r.1, r.2.1, r.2.2.1, r.2.2.2]
theorem Rw.mono {m n : Nat} {r : R4} (h : Rw m r) (l : m ≤ n) : Rw n r := ⟨h.one, h.bend, h.s1.mono l, h.s2.mono l, h.s3.mono l, h.s4.mono l⟩
theorem Rd.mono {m n : Nat} {r : R4} (h : Rd m r) (l : m ≤ n) : Rd n r := ⟨h.toRw.mono l, h.up⟩
theorem sz_4 : Sz 3 4 := by unfold Sz; decide
theorem Rd.pos {n : Nat} {r : R4} (h : Rd n r) (h0 : r.1 ≠ 0) : 0 < r.1 := by
  have := h.up
  unfold fnz at this
  rw [if_neg h0] at this
  exact this
theorem w_bend {T : Tk} {n : Nat} {a b c d : Int} {k : KD} (s1 : Sz n a) (s2 : Sz n b) (s3 : Sz n c) (s4 : Sz n d) (hn : n ≤ 8000) (h : k (.int (bnd (a, b, c, d))) T) : sm_bend [.val (.tup [.int a, .int b, .int c, .int d])] T k := by
  rw [e_bend, b_bend]
  walk_at "ev"
  exact ⟨s2.mulOk s2 (by omega) (by omega), s3.mulOk s3 (by omega) (by omega), lit_mul (by decide), (sz_4.mul s1).mulOk s4 (by omega) (by omega), h⟩
theorem w_are_wholes_4 {T : Tk} {i j l m : Int} {k : KD} (h : k (.bl true) T) : sm_are_wholes [.val (.tup [.int i, .int j, .int l, .int m]), .val (.int 4)] T k := by
  rw [e_are_wholes, b_are_wholes]
  walk_at "ev"
  refine w_is_whole ?_
  walk_at "ev"
  refine w_is_whole ?_
  walk_at "ev"
  refine w_is_whole ?_
  walk_at "ev"
  refine w_is_whole ?_
  walk_at "ev"
  exact h
theorem w_is_row {T : Tk} {n : Nat} {r : R4} {k : KD} (hr : Rw n r) (hn : n ≤ 8000) (h : k (.bl true) T) : sm_is_row [.val (.tup [.int r.1, .int r.2.1, .int r.2.2.1, .int r.2.2.2])] T k := by
  rw [e_is_row, b_is_row]
  walk_at "ev"
  refine w_are_wholes_4 ?_
  walk_at "ev"
  refine w_is_lowest (ns := [r.1, r.2.1, r.2.2.1, r.2.2.2]) (by simp) ?_
  rw [hr.one]
  walk_at "ev"
  refine w_bend hr.s1 hr.s2 hr.s3 hr.s4 hn ?_
  walk_at "ev"
  rw [decide_eq_true hr.bend]
  exact h
theorem w_is_led_up4 {T : Tk} {a b c d : Int} {k : KD} (h : k (.bl (decide (0 < fnz [a, b, c, d]))) T) : sm_is_led_up [.val (.tup [.int a, .int b, .int c, .int d])] T k := by
  rw [e_is_led_up, b_is_led_up]
  walk_at "ev"
  unfold fnz fnz fnz fnz fnz at h
  by_cases h1 : a = 0
  · rw [if_neg (not_not_intro h1)]
    rw [if_pos h1] at h
    by_cases h2 : b = 0
    · rw [if_neg (not_not_intro h2)]
      rw [if_pos h2] at h
      by_cases h3 : c = 0
      · rw [if_neg (not_not_intro h3)]
        rw [if_pos h3] at h
        by_cases h4 : d = 0
        · rw [if_neg (not_not_intro h4)]
          rw [if_pos h4] at h
          exact h
        · rw [if_pos h4]
          rw [if_neg h4] at h
          exact h
      · rw [if_pos h3]
        rw [if_neg h3] at h
        exact h
    · rw [if_pos h2]
      rw [if_neg h2] at h
      exact h
  · rw [if_pos h1]
    rw [if_neg h1] at h
    exact h
theorem w_is_round {T : Tk} {n : Nat} {r : R4} {k : KD} (hr : Rd n r) (hn : n ≤ 8000) (h : k (.bl true) T) : sm_is_round [.val (.tup [.int r.1, .int r.2.1, .int r.2.2.1, .int r.2.2.2])] T k := by
  rw [e_is_round, b_is_round]
  walk_at "ev"
  refine w_is_row hr.toRw hn ?_
  walk_at "ev"
  refine w_is_led_up4 ?_
  rw [decide_eq_true hr.up]
  exact h
theorem w_check_round {T : Tk} {n : Nat} {r : R4} {k : KD} (hr : Rd n r) (hn : n ≤ 8000) (h : k .non T) : sm_check_round [.val (.tup [.int r.1, .int r.2.1, .int r.2.2.1, .int r.2.2.2])] T k := by
  rw [e_check_round, b_check_round]
  walk_at "ev"
  refine w_is_round hr hn ?_
  walk_at "ev"
  exact h
def val4 (r : R4) (p : P3) : Int := r.1 * (p.1 * p.1 + p.2.1 * p.2.1) + r.2.1 * p.1 * p.2.2 + r.2.2.1 * p.2.1 * p.2.2 + r.2.2.2 * p.2.2 * p.2.2
theorem filt_head : ∀ (ns : List Int), fnz ns ≠ 0 → ((ns.filter fun x => !decide (x = 0)).map D.int)[0]? = some (.int (fnz ns))
  | [], h => absurd rfl h
  | n :: r, h => by
    unfold fnz at h ⊢
    by_cases q : n = 0
    · rw [if_pos q] at h ⊢
      rw [List.filter_cons_of_neg (by simp [q])]
      exact filt_head r h
    · rw [if_neg q]
      rw [List.filter_cons_of_pos (by simp [q])]
      rfl
theorem fnz_neg : ∀ ns : List Int, fnz (ns.map fun x => 0 - x) = - fnz ns
  | [] => rfl
  | n :: r => by
    rw [List.map_cons]
    unfold fnz
    by_cases q : n = 0
    · rw [if_pos q, if_pos (by omega)]; exact fnz_neg r
    · rw [if_neg q, if_neg (by omega)]; omega
theorem fnz_zero : ∀ ns : List Int, fnz ns = 0 → ∀ n ∈ ns, n = 0
  | [], _, _, h => by simp at h
  | m :: r, h, n, hn => by
    unfold fnz at h
    by_cases q : m = 0
    · rw [if_pos q] at h
      rcases List.mem_cons.mp hn with e | e
      · rw [e]; exact q
      · exact fnz_zero r h n e
    · rw [if_neg q] at h
      exact absurd h q
theorem gcdL_neg : ∀ (ns : List Int) (g : Int), gcdL g (ns.map fun x => 0 - x) = gcdL g ns
  | [], g => rfl
  | n :: r, g => by
    rw [List.map_cons]
    show gcdL (iGcd g (0 - n)) _ = gcdL (iGcd g n) r
    have e : iGcd g (0 - n) = iGcd g n := by
      show ((Nat.gcd _ _ : Nat) : Int) = ((Nat.gcd _ _ : Nat) : Int)
      rw [Int.zero_sub, Int.natAbs_neg]
    rw [e]
    exact gcdL_neg r _
theorem Rw.neg {n : Nat} {r : R4} (h : Rw n r) : Rw n (0 - r.1, 0 - r.2.1, 0 - r.2.2.1, 0 - r.2.2.2) := by
  refine ⟨?_, ?_, ?_, ?_, ?_, ?_⟩
  · have := gcdL_neg [r.1, r.2.1, r.2.2.1, r.2.2.2] 0
    rw [h.one] at this
    exact this
  · have := h.bend
    unfold bnd at this ⊢
    simp only
    grind
  · simp only [Int.zero_sub]; exact h.s1.neg
  · simp only [Int.zero_sub]; exact h.s2.neg
  · simp only [Int.zero_sub]; exact h.s3.neg
  · simp only [Int.zero_sub]; exact h.s4.neg
theorem rne' {a : Int} (h : 0 < a) : (a : Rat) ≠ 0 := fun e => by have := cast_inj (b := 0) e; omega
abbrev pD (q : P3) : D := .tup [.int q.1, .int q.2.1, .int q.2.2]
/-- a place, the far one too -/
structure Pt (n : Nat) (q : P3) : Prop where
  ok : (q.1 = 1 ∧ q.2.1 = 0 ∧ q.2.2 = 0) ∨ 0 < q.2.2
  one : gcdL 0 [q.1, q.2.1, q.2.2] = 1
  s1 : Sz n q.1
  s2 : Sz n q.2.1
  s3 : Sz n q.2.2
theorem Pt.mono {m n : Nat} {q : P3} (h : Pt m q) (l : m ≤ n) : Pt n q := ⟨h.ok, h.one, h.s1.mono l, h.s2.mono l, h.s3.mono l⟩
theorem PlQ.pt {n : Nat} {q : P3} {u v : Rat} (h : PlQ n q u v) : Pt n q := ⟨.inr h.pos, h.one, h.s1, h.s2, h.s3⟩
theorem sz_1 {n : Nat} (h : 1 ≤ n) : Sz n 1 := Nat.pow_lt_pow_right (m := 0) (n := n) (by decide) (by omega)
theorem pt_far {n : Nat} (h : 1 ≤ n) : Pt n (1, 0, 0) := ⟨.inl ⟨rfl, rfl, rfl⟩, by decide, sz_1 h, sz_0, sz_0⟩
theorem Pt.far {n : Nat} {q : P3} (h : Pt n q) (e : q.2.2 = 0) : q = (1, 0, 0) := by
  obtain ⟨a, b, c⟩ := q
  rcases h.ok with ⟨e1, e2, e3⟩ | e1
  · simp only at e1 e2 e3; subst e1 e2 e3; rfl
  · simp only at e e1; omega
theorem Pt.nn {n : Nat} {q : P3} (h : Pt n q) : 0 ≤ q.2.2 := by rcases h.ok with ⟨_, _, e3⟩ | e1 <;> omega
theorem lite_pt {n : Nat} {p : P3} (h : Pt n p) (l : n ≤ 1900) : (pD p).lite := lite_tup (liteL_cons (h.s1.lite l) (liteL_cons (h.s2.lite l) (liteL_cons (h.s3.lite l) liteL_nil)))
/-- the square of how far apart, times what is below -/
def dd (p q : P3) : Int := (p.1 * q.2.2 - q.1 * p.2.2) * (p.1 * q.2.2 - q.1 * p.2.2) + (p.2.1 * q.2.2 - q.2.1 * p.2.2) * (p.2.1 * q.2.2 - q.2.1 * p.2.2)
theorem two_sq {a b : Int} (h : a * a + b * b = 0) : a = 0 ∧ b = 0 := by
  have h1 := mul_self_nonneg' a
  have h2 := mul_self_nonneg' b
  constructor
  · by_cases c : a = 0
    · exact c
    · have := imul_self_pos c; omega
  · by_cases c : b = 0
    · exact c
    · have := imul_self_pos c; omega
theorem dd_zero {m n : Nat} {p q : P3} (hp : Pt m p) (hq : Pt n q) (h : dd p q = 0) : p = q := by
  obtain ⟨e1, e2⟩ := two_sq h
  by_cases z : p.2.2 = 0
  · have f := hp.far z
    subst f
    simp only [Int.one_mul, Int.mul_zero, Int.sub_zero] at e1
    exact (hq.far e1).symm
  by_cases z' : q.2.2 = 0
  · have f := hq.far z'
    subst f
    simp only [Int.one_mul, Int.mul_zero, Int.zero_sub] at e1
    exact absurd (by omega) z
  have p1 : 0 < p.2.2 := by have := hp.nn; omega
  have p2 : 0 < q.2.2 := by have := hq.nn; omega
  have o1 := hp.one
  have o2 := hq.one
  obtain ⟨a, b, c⟩ := p
  obtain ⟨a', b', c'⟩ := q
  simp only at *
  have := gcd_uniq p2 p1 o1 o2 (show [a, b, c].map (c' * ·) = [a', b', c'].map (c * ·) by
    simp only [List.map_cons, List.map_nil, List.cons.injEq, and_true]
    refine ⟨?_, ?_, Int.mul_comm _ _⟩
    · rw [Int.mul_comm c' a, Int.mul_comm c a']; omega
    · rw [Int.mul_comm c' b, Int.mul_comm c b']; omega)
  simpa using this
theorem TkOk.noL {T : Tk} (h : TkOk T) : D.noLL T := by
  obtain ⟨a, b, c, rfl, _⟩ := h
  simp only [D.noLL, D.noL, and_self]
theorem eqD_pD (p q : P3) : eqD (pD p) (pD q) = decide (p = q) := by
  obtain ⟨a, b, c⟩ := p
  obtain ⟨a', b', c'⟩ := q
  simp only [pD, eqD_tup, eqDL_cons, eqDL_nil, eqD_int, Bool.and_true, Prod.mk.injEq, Bool.decide_and]
theorem any_pD (q : P3) : ∀ ps : List P3, (ps.map pD).any (fun z => eqD z (pD q)) = decide (q ∈ ps)
  | [] => by simp
  | p :: ps => by
    rw [List.map_cons, List.any_cons, any_pD q ps, eqD_pD]
    by_cases h : p = q
    · subst h; simp
    · have h' : ¬ q = p := fun e => h e.symm
      simp [h, h']
theorem ok_pDs_aux : ∀ ps : List P3, D.isPyL (ps.map pD) = true ∧ PyData.canLayAll0 (D.pyL (ps.map pD)) = true ∧ PyData.depthAll (D.pyL (ps.map pD)) ≤ 1
  | [] => ⟨rfl, rfl, by simp [D.pyL, PyData.depthAll]⟩
  | p :: ps => by
    have ⟨h1, h2, h3⟩ := ok_pDs_aux ps
    refine ⟨?_, ?_, ?_⟩
    · simp only [List.map_cons, D.isPyL, pD, D.isPy, h1, Bool.and_self]
    · simp only [List.map_cons, D.pyL, pD, D.py, PyData.canLayAll0, PyData.canLay0, h2, Bool.and_self]
    · simp only [List.map_cons, D.pyL, pD, D.py, PyData.depthAll, PyData.depth]; omega
theorem ok_pDs (ps : List P3) : (D.lst (ps.map pD)).eqOk := by
  have ⟨h1, h2, h3⟩ := ok_pDs_aux ps
  refine ⟨by simpa only [D.isPy] using h1, ?_⟩
  unfold SeqAt.shaped
  simp only [D.py, PyData.canLay0, h2, Bool.true_and, PyData.depth]
  simp; omega
/-- rounds that are multiples of one another are the same -/
theorem rd_uniq {m n : Nat} {r r' : R4} (h : Rd m r) (h' : Rd n r') {g g' : Int} (g0 : g ≠ 0) (g0' : g' ≠ 0) (e1 : g * r.1 = g' * r'.1) (e2 : g * r.2.1 = g' * r'.2.1) (e3 : g * r.2.2.1 = g' * r'.2.2.1) (e4 : g * r.2.2.2 = g' * r'.2.2.2) : r = r' := by
  have fz : ∀ (c : Int) (ns : List Int), c ≠ 0 → fnz (ns.map (c * ·)) = c * fnz ns := fun c ns hc => by
    induction ns with
    | nil => simp [fnz]
    | cons x xs ih =>
      rw [List.map_cons]
      unfold fnz
      by_cases q : x = 0
      · rw [if_pos q, if_pos (by rw [q, Int.mul_zero])]; exact ih
      · rw [if_neg q, if_neg (Int.mul_ne_zero hc q)]
  have e : [r.1, r.2.1, r.2.2.1, r.2.2.2].map (g * ·) = [r'.1, r'.2.1, r'.2.2.1, r'.2.2.2].map (g' * ·) := by simp only [List.map_cons, List.map_nil, e1, e2, e3, e4]
  have f := fz g [r.1, r.2.1, r.2.2.1, r.2.2.2] g0
  rw [e, fz g' _ g0'] at f
  have u := h.up
  have u' := h'.up
  have key : ∀ {a b : Int}, 0 < a → 0 < b → a * r.1 = b * r'.1 → a * r.2.1 = b * r'.2.1 → a * r.2.2.1 = b * r'.2.2.1 → a * r.2.2.2 = b * r'.2.2.2 → r = r' := fun {a b} ha hb q1 q2 q3 q4 => by
    have := gcd_uniq ha hb h.one h'.one (show [r.1, r.2.1, r.2.2.1, r.2.2.2].map (a * ·) = [r'.1, r'.2.1, r'.2.2.1, r'.2.2.2].map (b * ·) by simp only [List.map_cons, List.map_nil, q1, q2, q3, q4])
    obtain ⟨_, _, _, _⟩ := r
    obtain ⟨_, _, _, _⟩ := r'
    simpa using this
  rcases Int.lt_or_gt_of_ne g0 with c | c
  · have c' : g' < 0 := by
      rcases Int.lt_or_gt_of_ne g0' with d | d
      · exact d
      · have := Int.mul_pos d u'; have := Int.mul_neg_of_neg_of_pos c u; omega
    exact key (a := -g) (b := -g') (by omega) (by omega) (by rw [Int.neg_mul, Int.neg_mul, e1]) (by rw [Int.neg_mul, Int.neg_mul, e2]) (by rw [Int.neg_mul, Int.neg_mul, e3]) (by rw [Int.neg_mul, Int.neg_mul, e4])
  · have c' : 0 < g' := by
      rcases Int.lt_or_gt_of_ne g0' with d | d
      · have := Int.mul_neg_of_neg_of_pos d u'; have := Int.mul_pos c u; omega
      · exact d
    exact key c c' e1 e2 e3 e4
theorem row_nz {a b c d : Int} (h0 : 0 < bnd (a, b, c, d)) : ∃ x ∈ [a, b, c, d], x ≠ 0 := by
  by_cases hb : b = 0
  · by_cases hc : c = 0
    · by_cases ha : a = 0
      · exfalso; subst ha hb hc; unfold bnd at h0; simp at h0
      · exact ⟨a, by simp, ha⟩
    · exact ⟨c, by simp, hc⟩
  · exact ⟨b, by simp, hb⟩
def w4 (p : P3) : R4 := (p.1 * p.1 + p.2.1 * p.2.1, p.1 * p.2.2, p.2.1 * p.2.2, p.2.2 * p.2.2)
def mnr (a b c d : Int) : Int := a * d - b * c
def dt3 (a b c d e f g h i : Int) : Int := a * mnr e f h i - b * mnr d f g i + c * mnr d e g h
def cr4 (x y z : R4) : R4 := (dt3 x.2.1 x.2.2.1 x.2.2.2 y.2.1 y.2.2.1 y.2.2.2 z.2.1 z.2.2.1 z.2.2.2, -dt3 x.1 x.2.2.1 x.2.2.2 y.1 y.2.2.1 y.2.2.2 z.1 z.2.2.1 z.2.2.2,
  dt3 x.1 x.2.1 x.2.2.2 y.1 y.2.1 y.2.2.2 z.1 z.2.1 z.2.2.2, -dt3 x.1 x.2.1 x.2.2.1 y.1 y.2.1 y.2.2.1 z.1 z.2.1 z.2.2.1)
theorem cr4_swap (x y z : R4) : cr4 y x z = (-(cr4 x y z).1, -(cr4 x y z).2.1, -(cr4 x y z).2.2.1, -(cr4 x y z).2.2.2) := by
  simp only [cr4, dt3, mnr, Prod.mk.injEq]
  refine ⟨?_, ?_, ?_, ?_⟩ <;> grind
structure S4 (n : Nat) (r : R4) : Prop where
  s1 : Sz n r.1
  s2 : Sz n r.2.1
  s3 : Sz n r.2.2.1
  s4 : Sz n r.2.2.2
theorem ne3 {p q : P3} (h : p ≠ q) : ¬(p.1 = q.1 ∧ p.2.1 = q.2.1 ∧ p.2.2 = q.2.2) := fun ⟨a, b, c⟩ => h (Prod.ext a (Prod.ext b c))
theorem lite_rw {n : Nat} {r : R4} (h : Rw n r) (l : n ≤ 1900) : (D.tup [.int r.1, .int r.2.1, .int r.2.2.1, .int r.2.2.2]).lite := lite_tup (liteL_cons (h.s1.lite l) (liteL_cons (h.s2.lite l) (liteL_cons (h.s3.lite l) (liteL_cons (h.s4.lite l) liteL_nil))))
/-- the round through three places -/
structure Thr (r : R4) (p q s : P3) : Prop where
  ex : ∃ g : Int, g ≠ 0 ∧ (cr4 (w4 p) (w4 q) (w4 s)).1 = g * r.1 ∧ (cr4 (w4 p) (w4 q) (w4 s)).2.1 = g * r.2.1 ∧ (cr4 (w4 p) (w4 q) (w4 s)).2.2.1 = g * r.2.2.1 ∧ (cr4 (w4 p) (w4 q) (w4 s)).2.2.2 = g * r.2.2.2
theorem Thr.swap {r : R4} {p q s : P3} (h : Thr r p q s) : Thr r q p s := by
  obtain ⟨g, g0, e1, e2, e3, e4⟩ := h.ex
  refine ⟨-g, by omega, ?_⟩
  rw [cr4_swap]
  simp only [e1, e2, e3, e4, Int.neg_mul, and_self]
theorem Thr.uniq {m n : Nat} {r r' : R4} {p q s : P3} (h : Thr r p q s) (h' : Thr r' p q s) (hr : Rd m r) (hr' : Rd n r') : r = r' := by
  obtain ⟨g, g0, e1, e2, e3, e4⟩ := h.ex
  obtain ⟨g', g0', f1, f2, f3, f4⟩ := h'.ex
  exact rd_uniq hr hr' g0 g0' (e1.symm.trans f1) (e2.symm.trans f2) (e3.symm.trans f3) (e4.symm.trans f4)
theorem Thr.line {r : R4} {p q s : P3} (h : Thr r p q s) : r.1 = 0 ↔ p.2.2 * q.2.2 * s.2.2 * (p.1 * (q.2.1 * s.2.2 - s.2.1 * q.2.2) - p.2.1 * (q.1 * s.2.2 - s.1 * q.2.2) + p.2.2 * (q.1 * s.2.1 - s.1 * q.2.1)) = 0 := by
  obtain ⟨g, g0, e1, _, _, _⟩ := h.ex
  have e : (cr4 (w4 p) (w4 q) (w4 s)).1 = p.2.2 * q.2.2 * s.2.2 * (p.1 * (q.2.1 * s.2.2 - s.2.1 * q.2.2) - p.2.1 * (q.1 * s.2.2 - s.1 * q.2.2) + p.2.2 * (q.1 * s.2.1 - s.1 * q.2.1)) := by
    simp only [cr4, dt3, mnr, w4]; grind
  rw [← e, e1]
  constructor
  · intro z; rw [z, Int.mul_zero]
  · intro z; exact (Int.mul_eq_zero.mp z).resolve_left g0
theorem Rw.s4' {n : Nat} {r : R4} (h : Rw n r) : S4 n r := ⟨h.s1, h.s2, h.s3, h.s4⟩
theorem PlQ.cz {n : Nat} {p : P3} {u v : Rat} (h : PlQ n p u v) (l : n ≤ 100000) : Cz 100000 (p.1, p.2.1) := ⟨h.s1.mono l, h.s2.mono l⟩
theorem PlQ.nz {n : Nat} {q : P3} {u v : Rat} (h : PlQ n q u v) (h0 : ¬(q.1 = 0 ∧ q.2.1 = 0)) : u * u + v * v ≠ 0 := by
  have c := cnrm_pos (w := (q.1, q.2.1)) h0
  unfold cnrm at c
  simp only at c
  have e1 := h.e1
  have e2 := h.e2
  have e : ((q.1 * q.1 + q.2.1 * q.2.1 : Int) : Rat) = (u * u + v * v) * (q.2.2 * q.2.2 : Rat) := by push_cast; grind
  intro z
  rw [z] at e
  have : ((q.1 * q.1 + q.2.1 * q.2.1 : Int) : Rat) = ((0 : Int) : Rat) := by rw [e]; push_cast; grind
  have := cast_inj this
  omega
theorem w_quotient_place {T : Tk} {n : Nat} {a b c d : Int} {u v : Rat} {k : KD} (hz : Cz n (a, b)) (hw : Cz n (c, d)) (hn : n ≤ 4000) (h0 : 0 < cnrm (c, d)) (e1 : ((cmul (a, b) (cconj (c, d))).1 : Rat) = u * (cnrm (c, d) : Rat)) (e2 : ((cmul (a, b) (cconj (c, d))).2 : Rat) = v * (cnrm (c, d) : Rat))
    (h : ∀ q : P3, PlQ (n + n + 1) q u v → k (.tup [.int q.1, .int q.2.1, .int q.2.2]) T) : sm_quotient_place [.val (.tup [.int a, .int b]), .val (.tup [.int c, .int d])] T k := by
  rw [e_quotient_place, b_quotient_place, k_ZERO, k_FAR]
  walk_at "ev"
  refine ⟨⟨ok_cx, ok_cx⟩, ?_⟩
  rw [if_neg (fun e => by obtain ⟨rfl, rfl⟩ := e; exact absurd h0 (by decide))]
  refine w_turned_over ?_
  walk_at "ev"
  refine w_times (hz.mono (by omega)) (hw.conj.mono (by omega)) ?_
  rintro _ rfl
  walk_at "ev"
  refine w_square_size (hw.mono (by omega)) ?_
  walk_at "ev"
  have := hz.mul hw.conj
  exact w_low3 h0 this.1 this.2 hw.nrm (by omega) e1 e2 h
/-- q is the place of z over w -/
structure HP (n : Nat) (q : P3) (z w : Cx2) : Prop where
  pt : Pt n q
  e1 : q.1 * w.1 - q.2.1 * w.2 = q.2.2 * z.1
  e2 : q.1 * w.2 + q.2.1 * w.1 = q.2.2 * z.2
  nz : ¬((z.1 = 0 ∧ z.2 = 0) ∧ (w.1 = 0 ∧ w.2 = 0))
theorem HP.mono {m n : Nat} {q : P3} {z w : Cx2} (h : HP m q z w) (l : m ≤ n) : HP n q z w := ⟨h.pt.mono l, h.e1, h.e2, h.nz⟩
theorem cx_norm {a b c d : Int} (h : ¬(c = 0 ∧ d = 0)) (e1 : a * c - b * d = 0) (e2 : a * d + b * c = 0) : a = 0 ∧ b = 0 := by
  have n0 : c * c + d * d ≠ 0 := fun z => h (two_sq z)
  constructor
  · have : a * (c * c + d * d) = 0 := by
      have : a * (c * c + d * d) = (a * c - b * d) * c + (a * d + b * c) * d := by grind
      rw [this, e1, e2]; simp
    exact (Int.mul_eq_zero.mp this).resolve_right n0
  · have : b * (c * c + d * d) = 0 := by
      have : b * (c * c + d * d) = (a * d + b * c) * c - (a * c - b * d) * d := by grind
      rw [this, e1, e2]; simp
    exact (Int.mul_eq_zero.mp this).resolve_right n0
theorem HP.far {n : Nat} {q : P3} {z w : Cx2} (h : HP n q z w) : q.2.2 = 0 ↔ (w.1 = 0 ∧ w.2 = 0) := by
  constructor
  · intro e
    have := h.pt.far e
    have e1 := h.e1
    have e2 := h.e2
    rw [this] at e1 e2
    simp only [Int.one_mul, Int.zero_mul, Int.sub_zero, Int.add_zero] at e1 e2
    exact ⟨e1, e2⟩
  · rintro ⟨w1, w2⟩
    have e1 := h.e1
    have e2 := h.e2
    rw [w1, w2, Int.mul_zero, Int.mul_zero] at e1 e2
    by_cases r : q.2.2 = 0
    · exact r
    · exfalso
      apply h.nz
      refine ⟨⟨?_, ?_⟩, w1, w2⟩
      · exact (Int.mul_eq_zero.mp (by simpa using e1.symm)).resolve_left r
      · exact (Int.mul_eq_zero.mp (by simpa using e2.symm)).resolve_left r
/-- the same quotient -/
theorem HP.tr {n : Nat} {q : P3} {z w z' w' : Cx2} (h : HP n q z w) (nz : ¬((z'.1 = 0 ∧ z'.2 = 0) ∧ (w'.1 = 0 ∧ w'.2 = 0))) (e1 : z.1 * w'.1 - z.2 * w'.2 = z'.1 * w.1 - z'.2 * w.2) (e2 : z.1 * w'.2 + z.2 * w'.1 = z'.1 * w.2 + z'.2 * w.1) : HP n q z' w' := by
  have h1 := h.e1
  have h2 := h.e2
  by_cases w0 : w.1 = 0 ∧ w.2 = 0
  · have r := h.far.mpr w0
    have qf := h.pt.far r
    obtain ⟨w1, w2⟩ := w0
    rw [w1, w2] at e1 e2
    simp only [Int.mul_zero, Int.sub_zero, Int.add_zero] at e1 e2
    have z0 : ¬(z.1 = 0 ∧ z.2 = 0) := fun z0 => h.nz ⟨z0, w1, w2⟩
    have := cx_norm (a := w'.1) (b := w'.2) z0 (by rw [Int.mul_comm w'.1, Int.mul_comm w'.2]; exact e1) (by rw [Int.mul_comm w'.1, Int.mul_comm w'.2]; omega)
    refine ⟨h.pt, ?_, ?_, nz⟩
    · rw [qf, this.1, this.2]; simp
    · rw [qf, this.1, this.2]; simp
  · refine ⟨h.pt, ?_, ?_, nz⟩
    · have k := cx_norm (a := q.1 * w'.1 - q.2.1 * w'.2 - q.2.2 * z'.1) (b := q.1 * w'.2 + q.2.1 * w'.1 - q.2.2 * z'.2) w0 (by grind) (by grind)
      have := k.1
      omega
    · have k := cx_norm (a := q.1 * w'.1 - q.2.1 * w'.2 - q.2.2 * z'.1) (b := q.1 * w'.2 + q.2.1 * w'.1 - q.2.2 * z'.2) w0 (by grind) (by grind)
      have := k.2
      omega
theorem HP.self {n : Nat} {q : P3} (h : Pt n q) : HP n q (q.1, q.2.1) (q.2.2, 0) := by
  refine ⟨h, by simp only [Int.mul_zero, Int.sub_zero]; exact Int.mul_comm _ _, by simp only [Int.mul_zero, Int.zero_add]; exact Int.mul_comm _ _, ?_⟩
  rintro ⟨⟨a, b⟩, c, _⟩
  simp only at a b c
  have := h.far c
  rw [this] at a
  simp at a
theorem HP.uniq {m n : Nat} {q q' : P3} {z w : Cx2} (h : HP m q z w) (h' : HP n q' z w) : q = q' := by
  refine dd_zero h.pt h'.pt ?_
  have a1 := h.e1
  have a2 := h.e2
  have b1 := h'.e1
  have b2 := h'.e2
  by_cases w0 : w.1 = 0 ∧ w.2 = 0
  · have r := h.far.mpr w0
    have r' := h'.far.mpr w0
    unfold dd
    rw [r, r']
    simp
  · have k := cx_norm (a := q.1 * q'.2.2 - q'.1 * q.2.2) (b := q.2.1 * q'.2.2 - q'.2.1 * q.2.2) w0 (by grind) (by grind)
    unfold dd
    rw [k.1, k.2]
    rfl
theorem plq_hp {n : Nat} {q : P3} {u v : Rat} {z w : Cx2} (h : PlQ n q u v) (w0 : ¬(w.1 = 0 ∧ w.2 = 0)) (e1 : u * (w.1 : Rat) - v * (w.2 : Rat) = (z.1 : Rat)) (e2 : u * (w.2 : Rat) + v * (w.1 : Rat) = (z.2 : Rat)) : HP n q z w := by
  refine ⟨h.pt, cast_inj ?_, cast_inj ?_, fun e => w0 e.2⟩
  · push_cast; rw [h.e1, h.e2, ← e1]; generalize (q.2.2 : Rat) = R; grind
  · push_cast; rw [h.e1, h.e2, ← e2]; generalize (q.2.2 : Rat) = R; grind
theorem w_quotient_hp {T : Tk} {n : Nat} {z w : Cx2} {k : KD} (hz : Cz n z) (hw : Cz n w) (hn : n ≤ 4000) (nz : ¬((z.1 = 0 ∧ z.2 = 0) ∧ (w.1 = 0 ∧ w.2 = 0))) (h : ∀ q : P3, HP (2 * n + 1) q z w → k (.tup [.int q.1, .int q.2.1, .int q.2.2]) T) :
    sm_quotient_place [.val (.tup [.int z.1, .int z.2]), .val (.tup [.int w.1, .int w.2])] T k := by
  by_cases w0 : w.1 = 0 ∧ w.2 = 0
  · rw [e_quotient_place, b_quotient_place, k_ZERO, k_FAR]
    walk_at "ev"
    refine ⟨⟨ok_cx, ok_cx⟩, ?_⟩
    rw [if_pos w0]
    refine h (1, 0, 0) ⟨pt_far (by omega), ?_, ?_, nz⟩
    · rw [w0.1, w0.2]; simp
    · rw [w0.1, w0.2]; simp
  · have np := cnrm_pos w0
    have nr := rne' np
    refine w_quotient_place (u := ((cmul z (cconj w)).1 : Rat) / (cnrm w : Rat)) (v := ((cmul z (cconj w)).2 : Rat) / (cnrm w : Rat)) (show Cz n (z.1, z.2) from hz) (show Cz n (w.1, w.2) from hw) hn np ?_ ?_ fun q hq => h q ((plq_hp hq w0 ?_ ?_).mono (by omega))
    · show ((cmul z (cconj w)).1 : Rat) = _ * (cnrm w : Rat)
      generalize (cnrm w : Rat) = N at *
      grind
    · show ((cmul z (cconj w)).2 : Rat) = _ * (cnrm w : Rat)
      generalize (cnrm w : Rat) = N at *
      grind
    · unfold cnrm at nr ⊢
      unfold cmul cconj
      push_cast at nr ⊢
      generalize (w.1 : Rat) = a at *
      generalize (w.2 : Rat) = b at *
      generalize (z.1 : Rat) = c at *
      generalize (z.2 : Rat) = d at *
      grind
    · unfold cnrm at nr ⊢
      unfold cmul cconj
      push_cast at nr ⊢
      generalize (w.1 : Rat) = a at *
      generalize (w.2 : Rat) = b at *
      generalize (z.1 : Rat) = c at *
      generalize (z.2 : Rat) = d at *
      grind

def jn (r x : R4) : Int := r.2.1 * x.2.1 + r.2.2.1 * x.2.2.1 - 2 * (r.1 * x.2.2.2 + x.1 * r.2.2.2)
def df1 (p q : P3) : Int := p.1 * q.2.2 - q.1 * p.2.2
def df2 (p q : P3) : Int := p.2.1 * q.2.2 - q.2.1 * p.2.2
def ui (p q r s : P3) : Int := df1 p r * df2 q s + df2 p r * df1 q s
theorem jn_comm (r x : R4) : jn r x = jn x r := by unfold jn; grind
theorem prop_same {m n : Nat} {x y : R4} (rx : Rd m x) (ry : Rd n y) (k12 : x.1 * y.2.1 = x.2.1 * y.1) (k13 : x.1 * y.2.2.1 = x.2.2.1 * y.1) (k14 : x.1 * y.2.2.2 = x.2.2.2 * y.1) (k23 : x.2.1 * y.2.2.1 = x.2.2.1 * y.2.1) (k24 : x.2.1 * y.2.2.2 = x.2.2.2 * y.2.1) (k34 : x.2.2.1 * y.2.2.2 = x.2.2.2 * y.2.2.1) : x = y := by
  have fin : ∀ (u v : Int), u ≠ 0 → u * x.1 = v * y.1 → u * x.2.1 = v * y.2.1 → u * x.2.2.1 = v * y.2.2.1 → u * x.2.2.2 = v * y.2.2.2 → x = y := fun u v hu q1 q2 q3 q4 => by
    by_cases hv : v = 0
    · subst hv
      have x1 : x.1 = 0 := (Int.mul_eq_zero.mp (q1.trans (Int.zero_mul _))).resolve_left hu
      have x2 : x.2.1 = 0 := (Int.mul_eq_zero.mp (q2.trans (Int.zero_mul _))).resolve_left hu
      have x3 : x.2.2.1 = 0 := (Int.mul_eq_zero.mp (q3.trans (Int.zero_mul _))).resolve_left hu
      have := rx.bend
      unfold bnd at this
      rw [x1, x2, x3] at this
      simp at this
    · exact rd_uniq rx ry hu hv q1 q2 q3 q4
  obtain ⟨c, hc, c0⟩ := row_nz (a := y.1) (b := y.2.1) (c := y.2.2.1) (d := y.2.2.2) ry.bend
  simp only [List.mem_cons, List.not_mem_nil, or_false] at hc
  rcases hc with rfl | rfl | rfl | rfl
  · exact fin y.1 x.1 c0 (Int.mul_comm _ _) (by rw [k12]; grind) (by rw [k13]; grind) (by rw [k14]; grind)
  · exact fin y.2.1 x.2.1 c0 (by grind) (Int.mul_comm _ _) (by rw [k23]; grind) (by rw [k24]; grind)
  · exact fin y.2.2.1 x.2.2.1 c0 (by grind) (by grind) (Int.mul_comm _ _) (by rw [k34]; grind)
  · exact fin y.2.2.2 x.2.2.2 c0 (by grind) (by grind) (by grind) (Int.mul_comm _ _)
/-- complex numbers with whole parts, as a ring -/
structure Gi where
  re : Int
  im : Int
theorem Gi.ext' {a b : Gi} (h : a.re = b.re) (q : a.im = b.im) : a = b := by
  cases a; cases b; simp only at h q; subst h q; rfl
def Gi.npw (a : Gi) : Nat → Gi
  | 0 => ⟨1, 0⟩
  | n + 1 => ⟨(Gi.npw a n).re * a.re - (Gi.npw a n).im * a.im, (Gi.npw a n).re * a.im + (Gi.npw a n).im * a.re⟩
instance : Add Gi := ⟨fun a b => ⟨a.re + b.re, a.im + b.im⟩⟩
instance : Mul Gi := ⟨fun a b => ⟨a.re * b.re - a.im * b.im, a.re * b.im + a.im * b.re⟩⟩
instance : Neg Gi := ⟨fun a => ⟨-a.re, -a.im⟩⟩
instance : Sub Gi := ⟨fun a b => ⟨a.re - b.re, a.im - b.im⟩⟩
instance : NatCast Gi := ⟨fun n => ⟨n, 0⟩⟩
instance : IntCast Gi := ⟨fun n => ⟨n, 0⟩⟩
instance (n : Nat) : OfNat Gi n := ⟨⟨n, 0⟩⟩
instance : SMul Nat Gi := ⟨fun n a => (n : Gi) * a⟩
instance : SMul Int Gi := ⟨fun n a => (n : Gi) * a⟩
instance : HPow Gi Nat Gi := ⟨Gi.npw⟩
theorem Gi.add_re (a b : Gi) : (a + b).re = a.re + b.re := rfl
theorem Gi.add_im (a b : Gi) : (a + b).im = a.im + b.im := rfl
theorem Gi.sub_re (a b : Gi) : (a - b).re = a.re - b.re := rfl
theorem Gi.sub_im (a b : Gi) : (a - b).im = a.im - b.im := rfl
theorem Gi.mul_re (a b : Gi) : (a * b).re = a.re * b.re - a.im * b.im := rfl
theorem Gi.mul_im (a b : Gi) : (a * b).im = a.re * b.im + a.im * b.re := rfl
theorem Gi.neg_re (a : Gi) : (-a).re = -a.re := rfl
theorem Gi.neg_im (a : Gi) : (-a).im = -a.im := rfl
theorem Gi.zero_re : (0 : Gi).re = 0 := rfl
theorem Gi.zero_im : (0 : Gi).im = 0 := rfl
theorem Gi.one_re : (1 : Gi).re = 1 := rfl
theorem Gi.one_im : (1 : Gi).im = 0 := rfl
theorem Gi.eq0 {a : Gi} : (a.re = 0 ∧ a.im = 0) ↔ a = 0 := ⟨fun ⟨x, y⟩ => Gi.ext' x y, fun h => by rw [h]; exact ⟨rfl, rfl⟩⟩
instance : Lean.Grind.CommRing Gi where
  add_zero a := Gi.ext' (Int.add_zero _) (Int.add_zero _)
  add_comm a b := Gi.ext' (Int.add_comm _ _) (Int.add_comm _ _)
  add_assoc a b c := Gi.ext' (Int.add_assoc _ _ _) (Int.add_assoc _ _ _)
  mul_assoc a b c := Gi.ext' (by simp only [Gi.mul_re, Gi.mul_im]; grind) (by simp only [Gi.mul_re, Gi.mul_im]; grind)
  mul_one a := Gi.ext' (by simp only [Gi.mul_re, Gi.one_re, Gi.one_im]; omega) (by simp only [Gi.mul_im, Gi.one_re, Gi.one_im]; omega)
  one_mul a := Gi.ext' (by simp only [Gi.mul_re, Gi.one_re, Gi.one_im]; omega) (by simp only [Gi.mul_im, Gi.one_re, Gi.one_im]; omega)
  right_distrib a b c := Gi.ext' (by simp only [Gi.mul_re, Gi.add_re, Gi.add_im]; grind) (by simp only [Gi.mul_im, Gi.add_re, Gi.add_im]; grind)
  mul_zero a := Gi.ext' (by simp only [Gi.mul_re, Gi.zero_re, Gi.zero_im]; omega) (by simp only [Gi.mul_im, Gi.zero_re, Gi.zero_im]; omega)
  left_distrib a b c := Gi.ext' (by simp only [Gi.mul_re, Gi.add_re, Gi.add_im]; grind) (by simp only [Gi.mul_im, Gi.add_re, Gi.add_im]; grind)
  zero_mul a := Gi.ext' (by simp only [Gi.mul_re, Gi.zero_re, Gi.zero_im]; omega) (by simp only [Gi.mul_im, Gi.zero_re, Gi.zero_im]; omega)
  pow_zero a := rfl
  pow_succ a n := rfl
  ofNat_succ n := Gi.ext' (by show ((n + 1 : Nat) : Int) = (n : Int) + 1; omega) rfl
  ofNat_eq_natCast n := rfl
  nsmul_eq_natCast_mul n a := rfl
  neg_add_cancel a := Gi.ext' (Int.add_left_neg _) (Int.add_left_neg _)
  sub_eq_add_neg a b := Gi.ext' Int.sub_eq_add_neg Int.sub_eq_add_neg
  neg_zsmul i a := Gi.ext' (by show (-i) * a.re - 0 * a.im = -(i * a.re - 0 * a.im); grind) (by show (-i) * a.im + 0 * a.re = -(i * a.im + 0 * a.re); grind)
  zsmul_natCast_eq_nsmul n a := rfl
  intCast_ofNat n := rfl
  intCast_neg i := Gi.ext' rfl (by show (0 : Int) = -0; rfl)
  mul_comm a b := Gi.ext' (by simp only [Gi.mul_re]; grind) (by simp only [Gi.mul_im]; grind)
def Gi.cj (a : Gi) : Gi := ⟨a.re, -a.im⟩
def Gi.nm (a : Gi) : Int := a.re * a.re + a.im * a.im
theorem Gi.cj_add (a b : Gi) : (a + b).cj = a.cj + b.cj := Gi.ext' rfl (by show -(a.im + b.im) = -a.im + -b.im; omega)
theorem Gi.cj_sub (a b : Gi) : (a - b).cj = a.cj - b.cj := Gi.ext' rfl (by show -(a.im - b.im) = -a.im - -b.im; omega)
theorem Gi.cj_neg (a : Gi) : (-a).cj = -a.cj := rfl
theorem Gi.cj_mul (a b : Gi) : (a * b).cj = a.cj * b.cj := Gi.ext' (by show a.re * b.re - a.im * b.im = a.re * b.re - -a.im * -b.im; grind) (by show -(a.re * b.im + a.im * b.re) = a.re * -b.im + -a.im * b.re; grind)
theorem Gi.cj_cj (a : Gi) : a.cj.cj = a := Gi.ext' rfl (Int.neg_neg _)
theorem Gi.cj_zero : (0 : Gi).cj = 0 := rfl
theorem Gi.nm_mul (a b : Gi) : (a * b).nm = a.nm * b.nm := by unfold Gi.nm; simp only [Gi.mul_re, Gi.mul_im]; grind
theorem Gi.nm_cj (a : Gi) : a.cj.nm = a.nm := by unfold Gi.nm Gi.cj; simp only; grind
theorem Gi.nm_nn (a : Gi) : 0 ≤ a.nm := by
  have := mul_self_nonneg' a.re
  have := mul_self_nonneg' a.im
  unfold Gi.nm; omega
theorem Gi.nm_zero {a : Gi} (h : a.nm = 0) : a = 0 := by
  unfold Gi.nm at h
  have h1 := mul_self_nonneg' a.re
  have h2 := mul_self_nonneg' a.im
  refine Gi.ext' ?_ ?_
  · by_cases c : a.re = 0
    · exact c
    · have := imul_self_pos c; omega
  · by_cases c : a.im = 0
    · exact c
    · have := imul_self_pos c; omega
theorem Gi.nm_pos {a : Gi} (h : a ≠ 0) : 0 < a.nm := by
  rcases Int.lt_or_eq_of_le a.nm_nn with e | e
  · exact e
  · exact absurd (Gi.nm_zero e.symm) h
theorem Gi.nm_of_zero : (0 : Gi).nm = 0 := rfl
theorem Gi.mul_zero' {a b : Gi} (h : a * b = 0) : a = 0 ∨ b = 0 := by
  have e := Gi.nm_mul a b
  rw [h, Gi.nm_of_zero] at e
  rcases Int.mul_eq_zero.mp e.symm with f | f
  · exact .inl (Gi.nm_zero f)
  · exact .inr (Gi.nm_zero f)
theorem Gi.mul_ne {a b : Gi} (h : a ≠ 0) (q : b ≠ 0) : a * b ≠ 0 := fun e => (Gi.mul_zero' e).elim h q
theorem Gi.cancel {a b c : Gi} (h : c ≠ 0) (e : c * a = c * b) : a = b := by
  have : c * (a - b) = 0 := by grind
  have := (Gi.mul_zero' this).resolve_left h
  grind
theorem Gi.cj_ne {a : Gi} (h : a ≠ 0) : a.cj ≠ 0 := fun e => h (by have := congrArg Gi.cj e; rw [Gi.cj_cj] at this; exact this)
instance : DecidableEq Gi := fun a b => if h : a.re = b.re ∧ a.im = b.im then .isTrue (Gi.ext' h.1 h.2) else .isFalse fun e => h (by rw [e]; exact ⟨rfl, rfl⟩)
/-- norms below 2 ^ n -/
def Nz (n : Nat) (a : Gi) : Prop := a.nm < 2 ^ n
theorem Nz.sz {n : Nat} {a : Gi} (h : Nz n a) : Sz n a.re ∧ Sz n a.im := by
  unfold Nz Gi.nm at h
  have h1 := mul_self_nonneg' a.re
  have h2 := mul_self_nonneg' a.im
  have key : ∀ x : Int, x * x < 2 ^ n → Sz n x := fun x hx => by
    have e : ((x.natAbs * x.natAbs : Nat) : Int) = x * x := Int.natAbs_mul_self' x ▸ (by push_cast; rfl)
    have e2 : x.natAbs * x.natAbs < 2 ^ n := by
      have : ((x.natAbs * x.natAbs : Nat) : Int) < ((2 ^ n : Nat) : Int) := by rw [e]; push_cast; exact hx
      exact_mod_cast this
    have : x.natAbs ≤ x.natAbs * x.natAbs := by
      rcases Nat.eq_zero_or_pos x.natAbs with z | z
      · rw [z]; exact Nat.le_refl _
      · exact Nat.le_mul_of_pos_left _ z
    unfold Sz
    omega
  exact ⟨key _ (by omega), key _ (by omega)⟩
theorem Nz.mono {m n : Nat} {a : Gi} (h : Nz m a) (l : m ≤ n) : Nz n a := by
  have : (2 : Int) ^ m ≤ 2 ^ n := by exact_mod_cast Nat.pow_le_pow_right (n := 2) (by decide) l
  unfold Nz at *
  omega
theorem Nz.cj {n : Nat} {a : Gi} (h : Nz n a) : Nz n a.cj := by unfold Nz at *; rw [Gi.nm_cj]; exact h
theorem Nz.dvd {n : Nat} {a b : Gi} (hb : b ≠ 0) (h : Nz n (b * a)) : Nz n a := by
  unfold Nz at *
  rw [Gi.nm_mul] at h
  have h1 := Gi.nm_pos hb
  have h2 := a.nm_nn
  have : a.nm ≤ b.nm * a.nm := by
    have := Int.mul_le_mul_of_nonneg_right (show 1 ≤ b.nm by omega) h2
    omega
  omega
theorem Nz.mul {m n : Nat} {a b : Gi} (h : Nz m a) (q : Nz n b) : Nz (m + n) (a * b) := by
  unfold Nz at *
  rw [Gi.nm_mul, Int.pow_add]
  generalize (2 : Int) ^ m = A at *
  generalize (2 : Int) ^ n = B at *
  have ha := a.nm_nn
  have hb := b.nm_nn
  have h1 := Int.mul_le_mul (show a.nm ≤ A - 1 by omega) (show b.nm ≤ B - 1 by omega) hb (by omega)
  have h2 : (A - 1) * (B - 1) = A * B - A - B + 1 := by grind
  omega
theorem Nz.add {n : Nat} {a b : Gi} (h : Nz n a) (q : Nz n b) : Nz (n + 2) (a + b) := by
  unfold Nz at *
  have e : (a + b).nm ≤ 2 * a.nm + 2 * b.nm := by
    have d : 2 * a.nm + 2 * b.nm - (a + b).nm = (a - b).nm := by unfold Gi.nm; simp only [Gi.add_re, Gi.add_im, Gi.sub_re, Gi.sub_im]; grind
    have := (a - b).nm_nn
    omega
  have p : (2 : Int) ^ (n + 2) = 4 * 2 ^ n := by rw [Int.pow_add]; omega
  omega
theorem Nz.neg {n : Nat} {a : Gi} (h : Nz n a) : Nz n (-a) := by
  unfold Nz at *
  have : (-a).nm = a.nm := by unfold Gi.nm; simp only [Gi.neg_re, Gi.neg_im]; grind
  omega
/-- g is a greatest common divisor of a and b -/
structure G2 (g a b : Gi) : Prop where
  l : ∃ x, a = x * g
  r : ∃ x, b = x * g
  s : ∃ u v, g = u * a + v * b
theorem G2.zero (a : Gi) : G2 a a 0 := ⟨⟨1, by grind⟩, ⟨0, by grind⟩, ⟨1, 0, by grind⟩⟩
theorem G2.step {g a b q : Gi} (h : G2 g b (a - q * b)) : G2 g a b := by
  obtain ⟨⟨x, hx⟩, ⟨y, hy⟩, u, v, hs⟩ := h
  exact ⟨⟨y + q * x, by grind⟩, ⟨x, hx⟩, v, u - v * q, by grind⟩
def nearI (a n : Int) : Int := (2 * a + n) / (2 * n)
theorem nearI_ok {a n : Int} (h : 0 < n) : -n ≤ 2 * (a - nearI a n * n) ∧ 2 * (a - nearI a n * n) ≤ n := by
  unfold nearI
  have e := Int.mul_ediv_add_emod (2 * a + n) (2 * n)
  have l := Int.emod_nonneg (2 * a + n) (show 2 * n ≠ 0 by omega)
  have r := Int.emod_lt_of_pos (2 * a + n) (show 0 < 2 * n by omega)
  generalize (2 * a + n) / (2 * n) = q at *
  generalize (2 * a + n) % (2 * n) = t at *
  have : 2 * (q * n) = 2 * n * q := by grind
  constructor <;> grind
def nearG (a b : Gi) : Gi := ⟨nearI (a * b.cj).re b.nm, nearI (a * b.cj).im b.nm⟩
theorem sq_half {x n : Int} (h1 : -n ≤ 2 * x) (h2 : 2 * x ≤ n) : 4 * (x * x) ≤ n * n := by
  have := Int.mul_nonneg (show 0 ≤ n - 2 * x by omega) (show 0 ≤ n + 2 * x by omega)
  have : (n - 2 * x) * (n + 2 * x) = n * n - 4 * (x * x) := by grind
  omega
theorem nearG_nm {a b : Gi} (h : b ≠ 0) : 2 * (a - nearG a b * b).nm ≤ b.nm := by
  have p := Gi.nm_pos h
  have e : (a - nearG a b * b) * b.cj = ⟨(a * b.cj).re - nearI (a * b.cj).re b.nm * b.nm, (a * b.cj).im - nearI (a * b.cj).im b.nm * b.nm⟩ := by
    have f : b * b.cj = ⟨b.nm, 0⟩ := Gi.ext' (by show b.re * b.re - b.im * -b.im = b.re * b.re + b.im * b.im; grind) (by show b.re * -b.im + b.im * b.re = 0; grind)
    have g : (a - nearG a b * b) * b.cj = a * b.cj - nearG a b * (b * b.cj) := by grind
    rw [g, f]
    refine Gi.ext' ?_ ?_
    · simp only [Gi.sub_re, Gi.mul_re, nearG]; grind
    · simp only [Gi.sub_im, Gi.mul_im, nearG]; grind
  have m := Gi.nm_mul (a - nearG a b * b) b.cj
  rw [e, Gi.nm_cj] at m
  obtain ⟨h1, h2⟩ := nearI_ok (a := (a * b.cj).re) p
  obtain ⟨h3, h4⟩ := nearI_ok (a := (a * b.cj).im) p
  have q1 := sq_half h1 h2
  have q2 := sq_half h3 h4
  have : 4 * ((a - nearG a b * b).nm * b.nm) ≤ 2 * (b.nm * b.nm) := by
    have m' : (a - nearG a b * b).nm * b.nm = ((a * b.cj).re - nearI (a * b.cj).re b.nm * b.nm) * ((a * b.cj).re - nearI (a * b.cj).re b.nm * b.nm) + ((a * b.cj).im - nearI (a * b.cj).im b.nm * b.nm) * ((a * b.cj).im - nearI (a * b.cj).im b.nm * b.nm) := m.symm
    omega
  have : (2 * (a - nearG a b * b).nm) * b.nm ≤ b.nm * b.nm := by
    have : (2 * (a - nearG a b * b).nm) * b.nm = 2 * ((a - nearG a b * b).nm * b.nm) := by grind
    omega
  exact Int.le_of_mul_le_mul_right this p
theorem G2.nz {g a b : Gi} (h : G2 g a b) (z : g = 0) : a = 0 ∧ b = 0 := by
  obtain ⟨⟨x, hx⟩, ⟨y, hy⟩, _⟩ := h
  subst z
  constructor <;> grind
abbrev G4 := Gi × Gi × Gi × Gi
/-- g is a greatest common divisor of four numbers -/
structure GD (g : Gi) (m : G4) : Prop where
  d1 : ∃ x, m.1 = x * g
  d2 : ∃ x, m.2.1 = x * g
  d3 : ∃ x, m.2.2.1 = x * g
  d4 : ∃ x, m.2.2.2 = x * g
  s : ∃ u v w t, g = u * m.1 + v * m.2.1 + w * m.2.2.1 + t * m.2.2.2
theorem gd_of {a b c d g1 g2 g3 g4 : Gi} (h1 : G2 g1 0 a) (h2 : G2 g2 g1 b) (h3 : G2 g3 g2 c) (h4 : G2 g4 g3 d) : GD g4 (a, b, c, d) := by
  obtain ⟨_, ⟨x1, e1⟩, u1, v1, s1⟩ := h1
  obtain ⟨⟨y2, f2⟩, ⟨x2, e2⟩, u2, v2, s2⟩ := h2
  obtain ⟨⟨y3, f3⟩, ⟨x3, e3⟩, u3, v3, s3⟩ := h3
  obtain ⟨⟨y4, f4⟩, ⟨x4, e4⟩, u4, v4, s4⟩ := h4
  have k2 : g2 = y3 * y4 * g4 := by rw [f3, f4]; grind
  have k1 : g1 = y2 * y3 * y4 * g4 := by rw [f2, k2]; grind
  refine ⟨⟨x1 * y2 * y3 * y4, ?_⟩, ⟨x2 * y3 * y4, ?_⟩, ⟨x3 * y4, ?_⟩, ⟨x4, e4⟩, u4 * u3 * u2 * v1, u4 * u3 * v2, u4 * v3, v4, ?_⟩
  · simp only; rw [e1, k1]; grind
  · simp only; rw [e2, k2]; grind
  · simp only; rw [e3, f4]; grind
  · simp only; rw [s4, s3, s2, s1]; grind
def fst4 (m : G4) : Gi := if m.1 ≠ 0 then m.1 else if m.2.1 ≠ 0 then m.2.1 else if m.2.2.1 ≠ 0 then m.2.2.1 else m.2.2.2
def scl (c : Gi) (m : G4) : G4 := (c * m.1, c * m.2.1, c * m.2.2.1, c * m.2.2.2)
theorem fst4_scl {c : Gi} (h : c ≠ 0) (m : G4) : fst4 (scl c m) = c * fst4 m := by
  have k : ∀ x : Gi, c * x ≠ 0 ↔ x ≠ 0 := fun x => ⟨fun e z => e (by rw [z]; grind), fun e => Gi.mul_ne h e⟩
  unfold fst4 scl
  simp only [k]
  split
  · rfl
  split
  · rfl
  split
  · rfl
  · rfl
/-- in the quarter -/
def Qf (a : Gi) : Prop := 0 < a.re ∧ 0 ≤ a.im
structure Mp (m : G4) : Prop where
  bez : ∃ u v w t, u * m.1 + v * m.2.1 + w * m.2.2.1 + t * m.2.2.2 = 1
  qf : Qf (fst4 m)
theorem unit_nm {s t : Gi} (h : s * t = 1) : s.nm = 1 := by
  have e := Gi.nm_mul s t
  rw [h] at e
  have e : s.nm * t.nm = 1 := e.symm
  have h1 := s.nm_nn
  have h2 := t.nm_nn
  have s0 : s.nm ≠ 0 := fun z => by rw [z, Int.zero_mul] at e; omega
  have t0 : t.nm ≠ 0 := fun z => by rw [z, Int.mul_zero] at e; omega
  have := Int.mul_le_mul_of_nonneg_left (show 1 ≤ t.nm by omega) h1
  omega
theorem unit_4 {s : Gi} (h : s.nm = 1) : (s.re = 1 ∧ s.im = 0) ∨ (s.re = -1 ∧ s.im = 0) ∨ (s.re = 0 ∧ s.im = 1) ∨ (s.re = 0 ∧ s.im = -1) := by
  unfold Gi.nm at h
  have h1 := mul_self_nonneg' s.re
  have h2 := mul_self_nonneg' s.im
  have k : ∀ x : Int, x * x ≤ 1 → x = 0 ∨ x = 1 ∨ x = -1 := fun x hx => by
    rcases Int.lt_trichotomy x 0 with f | f | f
    · by_cases g : x = -1
      · exact .inr (.inr g)
      · have := Int.mul_le_mul_of_nonneg_left (show 2 ≤ -x by omega) (show 0 ≤ -x by omega); rw [Int.neg_mul_neg] at this; omega
    · exact .inl f
    · by_cases g : x = 1
      · exact .inr (.inl g)
      · have := Int.mul_le_mul_of_nonneg_left (show 2 ≤ x by omega) (show 0 ≤ x by omega); omega
  rcases k s.re (by omega) with f | f | f <;> rcases k s.im (by omega) with g | g | g <;> rw [f, g] at h ⊢ <;> simp at h ⊢
theorem qf_unit {s f : Gi} (h : s.nm = 1) (q : Qf f) (q' : Qf (s * f)) : s = 1 := by
  unfold Qf at q q'
  rw [Gi.mul_re, Gi.mul_im] at q'
  rcases unit_4 h with ⟨a, b⟩ | ⟨a, b⟩ | ⟨a, b⟩ | ⟨a, b⟩ <;> rw [a, b] at q'
  · exact Gi.ext' a b
  · omega
  · omega
  · omega
/-- maps along one another are the same -/
theorem mp_uniq {m m' : G4} {c c' : Gi} (h : Mp m) (h' : Mp m') (c0 : c ≠ 0) (c0' : c' ≠ 0) (e : scl c m = scl c' m') : m = m' := by
  obtain ⟨⟨u, v, w, t, hb⟩, hq⟩ := h
  obtain ⟨⟨u', v', w', t', hb'⟩, hq'⟩ := h'
  have ef := fst4_scl c0 m
  rw [e, fst4_scl c0'] at ef
  obtain ⟨a, b, p, d⟩ := m
  obtain ⟨a', b', p', d'⟩ := m'
  unfold scl at e
  simp only [Prod.mk.injEq] at e hb hb'
  obtain ⟨e1, e2, e3, e4⟩ := e
  have k1 : c = c' * (u * a' + v * b' + w * p' + t * d') := by
    have : c = c * (u * a + v * b + w * p + t * d) := by rw [hb]; grind
    have e : c * (u * a + v * b + w * p + t * d) = u * (c * a) + v * (c * b) + w * (c * p) + t * (c * d) := by grind
    rw [this, e, e1, e2, e3, e4]; grind
  have k2 : c' = c * (u' * a + v' * b + w' * p + t' * d) := by
    have : c' = c' * (u' * a' + v' * b' + w' * p' + t' * d') := by rw [hb']; grind
    have e : c' * (u' * a' + v' * b' + w' * p' + t' * d') = u' * (c' * a') + v' * (c' * b') + w' * (c' * p') + t' * (c' * d') := by grind
    rw [this, e, ← e1, ← e2, ← e3, ← e4]; grind
  generalize u * a' + v * b' + w * p' + t * d' = s at k1
  generalize u' * a + v' * b + w' * p + t' * d = s' at k2
  have ss : s * s' = 1 := by
    refine Gi.cancel (c := c') c0' ?_
    have : c' * (s * s') = c * s' := by rw [k1]; grind
    rw [this, ← k2]; grind
  have ns := unit_nm ss
  have q1 : fst4 (a', b', p', d') = s * fst4 (a, b, p, d) := by
    refine Gi.cancel (c := c') c0' ?_
    rw [ef]
    have : c' * (s * fst4 (a, b, p, d)) = (c' * s) * fst4 (a, b, p, d) := by grind
    rw [this, ← k1]
  rw [q1] at hq'
  have s1 := qf_unit ns hq hq'
  have cc : c = c' := by rw [k1, s1]; grind
  rw [cc] at e1 e2 e3 e4
  rw [Gi.cancel c0' e1, Gi.cancel c0' e2, Gi.cancel c0' e3, Gi.cancel c0' e4]

def zG (q : P3) : Gi := ⟨q.1, q.2.1⟩
def rG (q : P3) : Gi := ⟨q.2.2, 0⟩
/-- q is the place of z over w -/
structure HG (n : Nat) (q : P3) (z w : Gi) : Prop where
  pt : Pt n q
  e : zG q * w = rG q * z
  nz : ¬(z = 0 ∧ w = 0)
theorem HG.hp {n : Nat} {q : P3} {z w : Gi} (h : HG n q z w) : HP n q (z.re, z.im) (w.re, w.im) := by
  have e := h.e
  have e1 := congrArg Gi.re e
  have e2 := congrArg Gi.im e
  simp only [Gi.mul_re, Gi.mul_im, zG, rG] at e1 e2
  exact ⟨h.pt, by simp only; omega, by simp only; omega, fun ⟨a, b⟩ => h.nz ⟨Gi.eq0.mp a, Gi.eq0.mp b⟩⟩
theorem HP.hg {n : Nat} {q : P3} {z w : Gi} (h : HP n q (z.re, z.im) (w.re, w.im)) : HG n q z w := by
  have e1 := h.e1
  have e2 := h.e2
  simp only at e1 e2
  refine ⟨h.pt, Gi.ext' ?_ ?_, fun ⟨a, b⟩ => h.nz ⟨Gi.eq0.mpr a, Gi.eq0.mpr b⟩⟩
  · simp only [Gi.mul_re, zG, rG]; omega
  · simp only [Gi.mul_im, zG, rG]; omega
theorem HG.uniq {m n : Nat} {q q' : P3} {z w : Gi} (h : HG m q z w) (h' : HG n q' z w) : q = q' := h.hp.uniq h'.hp
theorem HG.tr {n : Nat} {q : P3} {z w z' w' : Gi} (h : HG n q z w) (nz : ¬(z' = 0 ∧ w' = 0)) (e : z * w' = z' * w) : HG n q z' w' := by
  refine HP.hg (h.hp.tr (fun ⟨a, b⟩ => nz ⟨Gi.eq0.mp a, Gi.eq0.mp b⟩) ?_ ?_)
  · have := congrArg Gi.re e
    simpa only [Gi.mul_re] using this
  · have := congrArg Gi.im e
    simpa only [Gi.mul_im] using this
theorem HG.self {n : Nat} {q : P3} (h : Pt n q) : HG n q (zG q) (rG q) := HP.hg (HP.self h)
/-- two ways to write one place -/
theorem HG.cross {m n : Nat} {q : P3} {z w z' w' : Gi} (h : HG m q z w) (h' : HG n q z' w') : z * w' = z' * w := by
  have a := h.e
  have b := h'.e
  have s := (HG.self h.pt).nz
  by_cases r : rG q = 0
  · have z0 : zG q ≠ 0 := fun z0 => s ⟨z0, r⟩
    rw [r] at a b
    have w0 : w = 0 := (Gi.mul_zero' (a.trans (by grind))).resolve_left z0
    have w0' : w' = 0 := (Gi.mul_zero' (b.trans (by grind))).resolve_left z0
    rw [w0, w0']
    grind
  · refine Gi.cancel (c := rG q) r ?_
    have : rG q * (z * w') = (rG q * z) * w' := by grind
    have k : rG q * (z' * w) = (rG q * z') * w := by grind
    rw [this, k, ← a, ← b]
    grind
def dtG (m : G4) : Gi := m.1 * m.2.2.2 - m.2.1 * m.2.2.1
def apz (m : G4) (z w : Gi) : Gi := m.1 * z + m.2.1 * w
def apw (m : G4) (z w : Gi) : Gi := m.2.2.1 * z + m.2.2.2 * w
theorem ap_nz {m : G4} {z w : Gi} (d : dtG m ≠ 0) (h : ¬(z = 0 ∧ w = 0)) : ¬(apz m z w = 0 ∧ apw m z w = 0) := by
  rintro ⟨a, b⟩
  unfold apz at a
  unfold apw at b
  have k1 : dtG m * z = 0 := by
    have : dtG m * z = m.2.2.2 * (m.1 * z + m.2.1 * w) - m.2.1 * (m.2.2.1 * z + m.2.2.2 * w) := by unfold dtG; grind
    rw [this, a, b]; grind
  have k2 : dtG m * w = 0 := by
    have : dtG m * w = m.1 * (m.2.2.1 * z + m.2.2.2 * w) - m.2.2.1 * (m.1 * z + m.2.1 * w) := by unfold dtG; grind
    rw [this, a, b]; grind
  exact h ⟨(Gi.mul_zero' k1).resolve_left d, (Gi.mul_zero' k2).resolve_left d⟩
theorem HG.map {l n : Nat} {m : G4} {q t : P3} {z w : Gi} (d : dtG m ≠ 0) (h : HG l q z w) (ht : HG n t (apz m (zG q) (rG q)) (apw m (zG q) (rG q))) : HG n t (apz m z w) (apw m z w) := by
  refine ht.tr (ap_nz d h.nz) ?_
  have e := h.e
  have : apz m (zG q) (rG q) * apw m z w - apz m z w * apw m (zG q) (rG q) = dtG m * (zG q * w - rG q * z) := by unfold apz apw dtG; grind
  rw [e] at this
  have : apz m (zG q) (rG q) * apw m z w - apz m z w * apw m (zG q) (rG q) = 0 := by rw [this]; grind
  grind
def cjP (q : P3) : P3 := (q.1, -q.2.1, q.2.2)
theorem zG_cj (q : P3) : zG (cjP q) = (zG q).cj := rfl
theorem rG_cj (q : P3) : rG (cjP q) = rG q := rfl
theorem rG_self (q : P3) : (rG q).cj = rG q := Gi.ext' rfl (by show -(0 : Int) = 0; rfl)
theorem gcd_cj {a b c : Int} : gcdL 0 [a, -b, c] = gcdL 0 [a, b, c] := by
  unfold gcdL gcdL gcdL gcdL
  have : iGcd (iGcd 0 a) (-b) = iGcd (iGcd 0 a) b := by
    show ((Nat.gcd _ _ : Nat) : Int) = ((Nat.gcd _ _ : Nat) : Int)
    rw [Int.natAbs_neg]
  rw [this]
theorem Pt.cj {n : Nat} {q : P3} (h : Pt n q) : Pt n (cjP q) := by
  refine ⟨?_, (gcd_cj).trans h.one, h.s1, h.s2.neg, h.s3⟩
  rcases h.ok with ⟨a, b, c⟩ | c
  · exact .inl ⟨a, by show -q.2.1 = 0; omega, c⟩
  · exact .inr c
theorem HG.cj {n : Nat} {q : P3} {z w : Gi} (h : HG n q z w) : HG n (cjP q) z.cj w.cj := by
  refine ⟨h.pt.cj, ?_, fun ⟨a, b⟩ => h.nz ⟨?_, ?_⟩⟩
  · rw [zG_cj, rG_cj, ← Gi.cj_mul, h.e, Gi.cj_mul, rG_self]
  · have := congrArg Gi.cj a; rw [Gi.cj_cj] at this; exact this
  · have := congrArg Gi.cj b; rw [Gi.cj_cj] at this; exact this
/-- the first number, conjugate if the map is mirrored -/
def fl (f : Int) (z : Gi) : Gi := if f = 1 then z.cj else z
theorem fl_ne {f : Int} {z : Gi} (h : z ≠ 0) : fl f z ≠ 0 := by unfold fl; split; exact Gi.cj_ne h; exact h
/-- t is where the map leads q -/
def Led (n : Nat) (f : Int) (m : G4) (q t : P3) : Prop := HG n t (apz m (fl f (zG q)) (rG q)) (apw m (fl f (zG q)) (rG q))
theorem Led.uniq {l n : Nat} {f : Int} {m : G4} {q t t' : P3} (h : Led l f m q t) (h' : Led n f m q t') : t = t' := HG.uniq h h'
theorem fl_nz {n : Nat} {f : Int} {q : P3} (h : Pt n q) : ¬(fl f (zG q) = 0 ∧ rG q = 0) := by
  have s := (HG.self h).nz
  rintro ⟨a, b⟩
  refine s ⟨?_, b⟩
  unfold fl at a
  split at a
  · have := congrArg Gi.cj a; rw [Gi.cj_cj] at this; exact this
  · exact a
theorem led_nz {n : Nat} {f : Int} {m : G4} {q : P3} (d : dtG m ≠ 0) (h : Pt n q) : ¬(apz m (fl f (zG q)) (rG q) = 0 ∧ apw m (fl f (zG q)) (rG q) = 0) := ap_nz d (fl_nz h)
theorem Led.inj {l n a b : Nat} {f : Int} {m : G4} {q q' t : P3} (d : dtG m ≠ 0) (hq : Pt a q) (hq' : Pt b q') (h : Led l f m q t) (h' : Led n f m q' t) : q = q' := by
  have c := HG.cross h h'
  have k : dtG m * (fl f (zG q) * rG q' - fl f (zG q') * rG q) = 0 := by
    have : dtG m * (fl f (zG q) * rG q' - fl f (zG q') * rG q) = apz m (fl f (zG q)) (rG q) * apw m (fl f (zG q')) (rG q') - apz m (fl f (zG q')) (rG q') * apw m (fl f (zG q)) (rG q) := by unfold dtG apz apw; grind
    rw [this, c]; grind
  have k := (Gi.mul_zero' k).resolve_left d
  have k2 : zG q * rG q' - zG q' * rG q = 0 := by
    unfold fl at k
    split at k
    · have := congrArg Gi.cj k
      rw [Gi.cj_sub, Gi.cj_mul, Gi.cj_mul, Gi.cj_cj, Gi.cj_cj, rG_self, rG_self] at this
      exact this
    · exact k
  refine dd_zero hq hq' ?_
  have e1 := congrArg Gi.re k2
  have e2 := congrArg Gi.im k2
  simp only [Gi.sub_re, Gi.sub_im, Gi.mul_re, Gi.mul_im, zG, rG, Gi.zero_re, Gi.zero_im] at e1 e2
  unfold dd
  have f1 : q.1 * q'.2.2 - q'.1 * q.2.2 = 0 := by omega
  have f2 : q.2.1 * q'.2.2 - q'.2.1 * q.2.2 = 0 := by omega
  rw [f1, f2]
  rfl
/-- one matrix after another; the second one's conjugate if the first map is mirrored -/
def flm (f : Int) (m : G4) : G4 := (fl f m.1, fl f m.2.1, fl f m.2.2.1, fl f m.2.2.2)
def mulm (m n : G4) : G4 := (m.1 * n.1 + m.2.1 * n.2.2.1, m.1 * n.2.1 + m.2.1 * n.2.2.2, m.2.2.1 * n.1 + m.2.2.2 * n.2.2.1, m.2.2.1 * n.2.1 + m.2.2.2 * n.2.2.2)
def Pr (f : Int) (m n : G4) : G4 := mulm m (flm f n)
def adjm (m : G4) : G4 := (m.2.2.2, -m.2.1, -m.2.2.1, m.1)
def Bk (f : Int) (m : G4) : G4 := flm f (adjm m)
theorem dt_mul (m n : G4) : dtG (mulm m n) = dtG m * dtG n := by unfold dtG mulm; simp only; grind
theorem dt_fl (f : Int) (m : G4) : dtG (flm f m) = fl f (dtG m) := by
  unfold dtG flm fl
  simp only
  split
  · rw [Gi.cj_sub, Gi.cj_mul, Gi.cj_mul]
  · rfl
theorem dt_adj (m : G4) : dtG (adjm m) = dtG m := by unfold dtG adjm; simp only; grind
theorem dt_scl (c : Gi) (m : G4) : dtG (scl c m) = c * c * dtG m := by unfold dtG scl; simp only; grind
theorem dt_fst {m : G4} (d : dtG m ≠ 0) : fst4 m ≠ 0 := fun z => by
  apply d
  unfold fst4 at z
  unfold dtG
  split at z
  · rename_i c; exact absurd z c
  · rename_i c1
    split at z
    · rename_i c; exact absurd z c
    · rename_i c2
      have a1 : m.1 = 0 := Classical.byContradiction c1
      have a2 : m.2.1 = 0 := Classical.byContradiction c2
      rw [a1, a2]
      grind
theorem ap_mul (m n : G4) (z w : Gi) : apz (mulm m n) z w = apz m (apz n z w) (apw n z w) ∧ apw (mulm m n) z w = apw m (apz n z w) (apw n z w) := by
  unfold apz apw mulm; simp only; constructor <;> grind
theorem ap_scl (c : Gi) (m : G4) (z w : Gi) : apz (scl c m) z w = c * apz m z w ∧ apw (scl c m) z w = c * apw m z w := by
  unfold apz apw scl; simp only; constructor <;> grind
/-- led by a multiple -/
theorem Led.scl {n : Nat} {f : Int} {c : Gi} {m : G4} {q t : P3} (c0 : c ≠ 0) (h : Led n f (scl c m) q t) : Led n f m q t := by
  unfold Led at *
  rw [(ap_scl _ _ _ _).1, (ap_scl _ _ _ _).2] at h
  refine h.tr (fun ⟨a, b⟩ => h.nz ⟨?_, ?_⟩) (by grind)
  · rw [a]; grind
  · rw [b]; grind
/-- led twice -/
theorem Led.two {l n a : Nat} {f g : Int} {m1 m2 : G4} {q s t : P3} (d : dtG m1 ≠ 0) (hf : f = 0 ∨ f = 1) (hg : g = 0 ∨ g = 1) (hs : Led l g m2 q s) (ht : Led n f m1 s t) : Led n ((f + g) % 2) (Pr f m1 m2) q t := by
  unfold Led at *
  have e : ∀ (z w : Gi), apz (flm 1 m2) z w = (apz m2 z.cj w.cj).cj ∧ apw (flm 1 m2) z w = (apw m2 z.cj w.cj).cj := fun z w => by
    unfold apz apw flm fl
    simp only [if_true, Gi.cj_add, Gi.cj_mul, Gi.cj_cj, and_self]
  rcases hf with rfl | rfl
  · have k := HG.map (m := m1) d hs ht
    have e0 : flm 0 m2 = m2 := rfl
    unfold Pr
    rw [e0, (ap_mul _ _ _ _).1, (ap_mul _ _ _ _).2]
    have eg : ((0 + g) % 2 : Int) = g := by rcases hg with rfl | rfl <;> rfl
    rw [eg]
    exact k
  · have k := HG.map (m := m1) (q := cjP s) d hs.cj ht
    unfold Pr
    rw [(ap_mul _ _ _ _).1, (ap_mul _ _ _ _).2, (e _ _).1, (e _ _).2, rG_self]
    have ez : (fl ((1 + g) % 2) (zG q)).cj = fl g (zG q) := by
      rcases hg with rfl | rfl
      · show ((zG q).cj).cj = zG q; exact Gi.cj_cj _
      · rfl
    rw [ez]
    exact k
theorem bk_pr {f g : Int} (hf : f = 0 ∨ f = 1) (hg : g = 0 ∨ g = 1) (m n : G4) : Bk ((f + g) % 2) (Pr f m n) = Pr g (Bk g n) (Bk f m) := by
  rcases hf with rfl | rfl <;> rcases hg with rfl | rfl <;> simp only [Bk, Pr, flm, fl, mulm, adjm, Prod.mk.injEq] <;> simp [Gi.cj_add, Gi.cj_mul, Gi.cj_cj, Gi.cj_neg] <;> grind
theorem pr_assoc {f g : Int} (hf : f = 0 ∨ f = 1) (hg : g = 0 ∨ g = 1) (m n l : G4) : Pr ((f + g) % 2) (Pr f m n) l = Pr f m (Pr g n l) := by
  rcases hf with rfl | rfl <;> rcases hg with rfl | rfl <;> simp only [Pr, flm, fl, mulm, Prod.mk.injEq] <;> simp [Gi.cj_add, Gi.cj_mul, Gi.cj_cj] <;> grind
theorem pr_back {f : Int} (hf : f = 0 ∨ f = 1) (m : G4) : Pr f (Bk f m) m = scl (fl f (dtG m)) (1, 0, 0, 1) ∧ Pr f m (Bk f m) = scl (dtG m) (1, 0, 0, 1) := by
  rcases hf with rfl | rfl <;> simp only [Bk, Pr, flm, fl, mulm, adjm, scl, dtG, Prod.mk.injEq] <;> simp [Gi.cj_add, Gi.cj_mul, Gi.cj_cj, Gi.cj_neg, Gi.cj_sub] <;> grind
theorem bk_bk {f : Int} (hf : f = 0 ∨ f = 1) (m : G4) : Bk f (Bk f m) = m := by
  obtain ⟨a, b, c, d⟩ := m
  rcases hf with rfl | rfl <;> simp only [Bk, flm, fl, adjm, Prod.mk.injEq] <;> simp [Gi.cj_cj, Gi.cj_neg] <;> grind
theorem bk_scl (f : Int) (c : Gi) (m : G4) : Bk f (scl c m) = scl (fl f c) (Bk f m) := by
  unfold Bk flm fl adjm scl
  simp only [Prod.mk.injEq]
  split <;> simp only [Gi.cj_neg, Gi.cj_mul] <;> grind
theorem pr_scl (f : Int) (c d : Gi) (m n : G4) : Pr f (scl c m) (scl d n) = scl (c * fl f d) (Pr f m n) := by
  unfold Pr mulm flm fl scl
  simp only [Prod.mk.injEq]
  split <;> (try simp only [Gi.cj_mul]) <;> grind

abbrev gD (a : Gi) : D := .tup [.int a.re, .int a.im]
theorem ok_gD {a : Gi} : (gD a).eqOk := ok_cx
theorem Nz.cz {n : Nat} {a : Gi} (h : Nz n a) : Cz n (a.re, a.im) := h.sz
theorem sz_nm {n : Nat} {a : Gi} (h : Nz n a) : Sz n a.nm := by
  have := a.nm_nn
  unfold Nz at h
  unfold Sz
  have e : ((2 ^ n : Nat) : Int) = 2 ^ n := by push_cast; rfl
  omega
theorem w_nearest {T : Tk} {a n : Int} {k : KD} (h0 : 0 < n) (hs : Sz 8000 n) (h : k (.int (nearI a n)) T) : sm_nearest [.val (.int a), .val (.int n)] T k := by
  rw [e_nearest, b_nearest]
  walk_at "evn"
  exact ⟨lit_mul (by decide), lit_mul (by decide), ((show Sz 2 2 by unfold Sz; decide).mul hs).divOk (by decide) (by omega), h⟩
theorem w_timesG {T : Tk} {m n : Nat} {a b : Gi} {k : KD} (ha : Cz m (a.re, a.im)) (hb : Cz n (b.re, b.im)) (hm : m ≤ 100000) (hn : n ≤ 100000) (h : k (gD (a * b)) T) : sm_times [.val (gD a), .val (gD b)] T k :=
  w_times (ha.mono hm) (hb.mono hn) fun p hp => by subst hp; exact h
theorem w_minusG {T : Tk} {a b : Gi} {k : KD} (h : k (gD (a - b)) T) : sm_minus [.val (gD a), .val (gD b)] T k := w_minus h
theorem w_plusG {T : Tk} {a b : Gi} {k : KD} (h : k (gD (a + b)) T) : sm_plus [.val (gD a), .val (gD b)] T k := w_plus h
theorem w_turnG {T : Tk} {a : Gi} {k : KD} (h : k (gD a.cj) T) : sm_turned_over [.val (gD a)] T k := w_turned_over h
theorem w_divisor_of_two {T : Tk} {n : Nat} {a b : Gi} {k : KD} (ha : Nz n a) (hb : Nz n b) (hn : n ≤ 2000) (h : ∀ g, G2 g a b → Nz n g → k (gD g) T) : sm_divisor_of_two [.val (gD a), .val (gD b)] T k := by
  rw [e_divisor_of_two, b_divisor_of_two, k_ZERO]
  walk_at "evm"
  unfold sWhile
  refine ⟨fun m ρ T' => T' = T ∧ ∃ (c d : Gi) (x y : Option SV), ρ = [some (.val (gD a)), some (.val (gD b)), some (.val (gD c)), some (.val (gD d)), x, y] ∧ m = d.nm.toNat ∧ Nz n c ∧ Nz n d ∧ ∀ g, G2 g c d → G2 g a b, ⟨_, rfl, a, b, none, none, rfl, rfl, ha, hb, fun _ q => q⟩, ?_⟩
  rintro m ρ T' ⟨rfl, c, d, x, y, rfl, rfl, hc, hd, tr⟩
  walk_at "evm"
  refine ⟨⟨ok_gD, ok_cx⟩, ?_⟩
  by_cases d0 : d = 0
  · rw [if_neg (by rw [d0]; decide)]
    subst d0
    exact h c (tr c (G2.zero c)) hc
  have p := Gi.nm_pos d0
  rw [if_pos (by
    have : ¬(d.re = 0 ∧ d.im = 0) := fun z => d0 (Gi.eq0.mp z)
    simp only [Bool.and_eq_false_imp, decide_eq_true_eq, decide_eq_false_iff_not]
    first | exact fun z1 z2 => this ⟨z1, z2⟩ | simpa using this)]
  refine w_turnG ?_
  walk_at "evm"
  refine w_timesG (b := d.cj) hc.cz (hd.cj).cz (by omega) (by omega) ?_
  walk_at "evm"
  refine w_square_size ((hd.cz).mono (by omega)) ?_
  walk_at "evm"
  refine w_nearest p ((sz_nm hd).mono (by omega)) ?_
  walk_at "evm"
  refine w_square_size ((hd.cz).mono (by omega)) ?_
  walk_at "evm"
  refine w_nearest p ((sz_nm hd).mono (by omega)) ?_
  walk_at "evm"
  have nq : Nz (n + 2) (nearG c d) := by
    have h2 : Nz n (c - nearG c d * d) := by
      have := nearG_nm (a := c) d0
      have := (c - nearG c d * d).nm_nn
      unfold Nz at hd ⊢
      omega
    refine Nz.dvd d0 ?_
    have e : d * nearG c d = c + -(c - nearG c d * d) := by grind
    rw [e]
    exact hc.add h2.neg
  refine w_timesG (a := nearG c d) (b := d) nq.cz hd.cz (by omega) (by omega) ?_
  walk_at "evm"
  refine w_minusG ?_
  walk_at "evm"
  have lt := nearG_nm (a := c) d0
  have nn := (c - nearG c d * d).nm_nn
  refine ⟨(c - nearG c d * d).nm.toNat, by omega, d, c - nearG c d * d, _, _, rfl, rfl, hd, ?_, fun g hg => tr g (G2.step hg)⟩
  unfold Nz at hd ⊢
  omega

theorem cdivd_mulG {x g : Gi} (h : g ≠ 0) : cdivd ((x * g).re, (x * g).im) (g.re, g.im) = some (x.re, x.im) := by
  have p : 0 < cnrm (g.re, g.im) := Gi.nm_pos h
  have e1 : (cmul ((x * g).re, (x * g).im) (cconj (g.re, g.im))).1 = x.re * cnrm (g.re, g.im) := by
    simp only [cmul, cconj, cnrm, Gi.mul_re, Gi.mul_im]; grind
  have e2 : (cmul ((x * g).re, (x * g).im) (cconj (g.re, g.im))).2 = x.im * cnrm (g.re, g.im) := by
    simp only [cmul, cconj, cnrm, Gi.mul_re, Gi.mul_im]; grind
  unfold cdivd
  rw [e1, e2, Int.mul_emod_left, Int.mul_emod_left, if_pos ⟨rfl, rfl⟩, Int.mul_ediv_cancel _ (by omega), Int.mul_ediv_cancel _ (by omega)]
def guni (f : Gi) : Gi := ⟨(cunit (f.re, f.im)).1, (cunit (f.re, f.im)).2⟩
theorem guni_nm (f : Gi) : (guni f).nm = 1 := by
  unfold guni cunit
  split
  · rfl
  split
  · rfl
  split
  · rfl
  · rfl
theorem guni_qf {f : Gi} (h : f ≠ 0) : Qf (f * guni f) := by
  have h' : ¬(f.re = 0 ∧ f.im = 0) := fun z => h (Gi.eq0.mp z)
  unfold Qf
  rw [Gi.mul_re, Gi.mul_im]
  unfold guni cunit
  simp only
  split
  · rename_i c; simp only; omega
  split
  · rename_i c; simp only; omega
  split
  · rename_i c; simp only; omega
  · simp only; omega
theorem nm1_inv {u : Gi} (h : u.nm = 1) : u * u.cj = 1 := Gi.ext' (by show u.re * u.re - u.im * -u.im = 1; unfold Gi.nm at h; grind) (by show u.re * -u.im + u.im * u.re = 0; grind)
theorem nm1_ne {u : Gi} (h : u.nm = 1) : u ≠ 0 := fun z => by rw [z] at h; exact absurd h (by decide)
abbrev mD (f : Int) (m : G4) : D := .tup [.int f, gD m.1, gD m.2.1, gD m.2.2.1, gD m.2.2.2]
/-- m is the map of four numbers -/
structure Fm (n : Nat) (N m : G4) : Prop where
  mp : Mp m
  c : ∃ c, c ≠ 0 ∧ N = scl c m
  s1 : Nz n m.1
  s2 : Nz n m.2.1
  s3 : Nz n m.2.2.1
  s4 : Nz n m.2.2.2
theorem Fm.uniq {n l : Nat} {N m m' : G4} (h : Fm n N m) (h' : Fm l N m') : m = m' := by
  obtain ⟨c, c0, e⟩ := h.c
  obtain ⟨c', c0', e'⟩ := h'.c
  exact mp_uniq h.mp h'.mp c0 c0' (e.symm.trans e')
/-- the quotients by a greatest common divisor, times a unit, are the map -/
theorem fm_of' {n : Nat} {x : G4} {g U : Gi} (un : U.nm = 1) (qf : Qf (fst4 x * U)) (g0 : g ≠ 0) (hd : ∃ u v w t, g = u * (x.1 * g) + v * (x.2.1 * g) + w * (x.2.2.1 * g) + t * (x.2.2.2 * g)) (s1 : Nz n (x.1 * g)) (s2 : Nz n (x.2.1 * g)) (s3 : Nz n (x.2.2.1 * g)) (s4 : Nz n (x.2.2.2 * g)) :
    Fm n (x.1 * g, x.2.1 * g, x.2.2.1 * g, x.2.2.2 * g) (x.1 * U, x.2.1 * U, x.2.2.1 * U, x.2.2.2 * U) := by
  have ui := nm1_inv un
  have u0 := nm1_ne un
  have c0 : g * U.cj ≠ 0 := Gi.mul_ne g0 (Gi.cj_ne u0)
  have ef : fst4 (x.1 * U, x.2.1 * U, x.2.2.1 * U, x.2.2.2 * U) = fst4 x * U := by
    have := fst4_scl u0 x
    have e : scl U x = (x.1 * U, x.2.1 * U, x.2.2.1 * U, x.2.2.2 * U) := by
      unfold scl
      rw [show U * x.1 = x.1 * U by grind, show U * x.2.1 = x.2.1 * U by grind, show U * x.2.2.1 = x.2.2.1 * U by grind, show U * x.2.2.2 = x.2.2.2 * U by grind]
    rw [← e, this]
    grind
  have sz : ∀ y : Gi, Nz n (y * g) → Nz n (y * U) := fun y hy => by
    unfold Nz at *
    rw [Gi.nm_mul] at hy ⊢
    rw [un]
    have := Gi.nm_pos g0
    have := y.nm_nn
    have := Int.mul_le_mul_of_nonneg_left (show 1 ≤ g.nm by omega) (show 0 ≤ y.nm by omega)
    omega
  refine ⟨⟨?_, by rw [ef]; exact qf⟩, ⟨g * U.cj, c0, ?_⟩, sz _ s1, sz _ s2, sz _ s3, sz _ s4⟩
  · obtain ⟨u, v, w, t, e⟩ := hd
    refine ⟨u * U.cj, v * U.cj, w * U.cj, t * U.cj, ?_⟩
    simp only
    have k : g * (u * x.1 + v * x.2.1 + w * x.2.2.1 + t * x.2.2.2) = g * 1 := by grind
    have k := Gi.cancel g0 k
    have : u * U.cj * (x.1 * U) + v * U.cj * (x.2.1 * U) + w * U.cj * (x.2.2.1 * U) + t * U.cj * (x.2.2.2 * U) = (u * x.1 + v * x.2.1 + w * x.2.2.1 + t * x.2.2.2) * (U * U.cj) := by grind
    rw [this, k, ui]
    grind
  · unfold scl
    simp only
    have k : ∀ y : Gi, y * g = g * U.cj * (y * U) := fun y => by
      have : g * U.cj * (y * U) = y * g * (U * U.cj) := by grind
      rw [this, ui]
      grind
    rw [← k, ← k, ← k, ← k]
theorem fm_of {n : Nat} {x : G4} {g : Gi} (g0 : g ≠ 0) (hd : ∃ u v w t, g = u * (x.1 * g) + v * (x.2.1 * g) + w * (x.2.2.1 * g) + t * (x.2.2.2 * g)) (f0 : fst4 x ≠ 0) (s1 : Nz n (x.1 * g)) (s2 : Nz n (x.2.1 * g)) (s3 : Nz n (x.2.2.1 * g)) (s4 : Nz n (x.2.2.2 * g)) :
    Fm n (x.1 * g, x.2.1 * g, x.2.2.1 * g, x.2.2.2 * g) (x.1 * guni (fst4 x), x.2.1 * guni (fst4 x), x.2.2.1 * guni (fst4 x), x.2.2.2 * guni (fst4 x)) := fm_of' (guni_nm _) (guni_qf f0) g0 hd s1 s2 s3 s4
/-- the numbers that are not 0 -/
def nzG : List Gi → List Gi
  | [] => []
  | x :: r => if x = 0 then nzG r else x :: nzG r
theorem nzG_head {x : G4} (h : fst4 x ≠ 0) : ∃ r, nzG [x.1, x.2.1, x.2.2.1, x.2.2.2] = fst4 x :: r := by
  unfold fst4 at *
  by_cases h1 : x.1 = 0
  · by_cases h2 : x.2.1 = 0
    · by_cases h3 : x.2.2.1 = 0
      · simp only [h1, h2, h3, ne_eq, not_true_eq_false, if_false] at h ⊢
        refine ⟨[], ?_⟩
        simp only [nzG, if_true, if_neg h]
      · simp only [h1, h2, h3, ne_eq, not_true_eq_false, not_false_eq_true, if_false, if_true] at h ⊢
        refine ⟨nzG [x.2.2.2], ?_⟩
        rw [nzG, if_pos rfl, nzG, if_pos rfl, nzG, if_neg h3]
    · simp only [h1, h2, ne_eq, not_true_eq_false, not_false_eq_true, if_false, if_true] at h ⊢
      refine ⟨nzG [x.2.2.1, x.2.2.2], ?_⟩
      rw [nzG, if_pos rfl, nzG, if_neg h2]
  · simp only [h1, ne_eq, not_false_eq_true, if_true] at h ⊢
    refine ⟨nzG [x.2.1, x.2.2.1, x.2.2.2], ?_⟩
    rw [nzG, if_neg h1]

theorem w_divisor_of_all {T : Tk} {n : Nat} {N : G4} {NS : D} {k : KD} (hN : NS.it? = some [gD N.1, gD N.2.1, gD N.2.2.1, gD N.2.2.2]) (s1 : Nz n N.1) (s2 : Nz n N.2.1) (s3 : Nz n N.2.2.1) (s4 : Nz n N.2.2.2) (hn : n ≤ 2000) (h : ∀ g, GD g N → Nz n g → k (gD g) T) : sm_divisor_of_all [.val NS] T k := by
  rw [e_divisor_of_all, b_divisor_of_all, k_ZERO]
  walk_at "evm"
  simp only [hN]
  refine ⟨by simp, ?_⟩
  rw [forL_c]
  walk_at "evm"
  have z0 : Nz n 0 := by unfold Nz; rw [Gi.nm_of_zero]; exact Int.pow_pos (by decide)
  refine w_divisor_of_two (a := 0) z0 s1 hn fun g1 h1 n1 => ?_
  walk_at "evm"
  rw [forL_c]
  walk_at "evm"
  refine w_divisor_of_two n1 s2 hn fun g2 h2 n2 => ?_
  walk_at "evm"
  rw [forL_c]
  walk_at "evm"
  refine w_divisor_of_two n2 s3 hn fun g3 h3 n3 => ?_
  walk_at "evm"
  rw [forL_c]
  walk_at "evm"
  refine w_divisor_of_two n3 s4 hn fun g4 h4 n4 => ?_
  walk_at "evm"
  rw [forL_n]
  walk_at "evm"
  exact h g4 (gd_of h1 h2 h3 h4) n4
theorem lc_nzK {A0 A1 A2 A3 A5 : Option SV} {K : List D → Tk → Prop} : ∀ (xs : List Gi) (c : Option SV) (acc : List D) (T : Tk), K (acc ++ (nzG xs).map gD) T →
    lcD [A0, A1, A2, A3, c, A5] (cN 4) (dTst (dOp (oF fNe) (dVar 4) (dC (.tup [.int 0, .int 0])))) (dVar 4) K (xs.map gD) acc T
  | [], c, acc, T, h => by
    rw [nzG, List.map_nil, List.append_nil] at h
    exact h
  | x :: xs, c, acc, T, h => by
    rw [List.map_cons]
    walk_at "evn"
    refine ⟨⟨ok_gD, ok_cx⟩, ?_⟩
    by_cases q : x = 0
    · rw [if_neg (by rw [q]; decide)]
      rw [nzG, if_pos q] at h
      exact lc_nzK xs _ _ _ h
    · rw [if_pos (by
        have : ¬(x.re = 0 ∧ x.im = 0) := fun z => q (Gi.eq0.mp z)
        simp only [Bool.and_eq_false_imp, decide_eq_true_eq, decide_eq_false_iff_not]
        first | exact fun z1 z2 => this ⟨z1, z2⟩ | simpa using this)]
      rw [nzG, if_neg q, List.map_cons] at h
      refine lc_nzK xs _ _ _ ?_
      rw [List.append_assoc]
      exact h
theorem fst4_zero {x : G4} {g : Gi} (h : fst4 (x.1 * g, x.2.1 * g, x.2.2.1 * g, x.2.2.2 * g) ≠ 0) : g ≠ 0 ∧ fst4 x ≠ 0 := by
  have g0 : g ≠ 0 := fun z => by
    subst z
    apply h
    have k : ∀ y : Gi, y * 0 = 0 := fun y => by grind
    unfold fst4
    simp only [k, ne_eq, not_true_eq_false, if_false]
  refine ⟨g0, fun z => h ?_⟩
  have := fst4_scl g0 x
  have e : scl g x = (x.1 * g, x.2.1 * g, x.2.2.1 * g, x.2.2.2 * g) := by
    unfold scl
    rw [show g * x.1 = x.1 * g by grind, show g * x.2.1 = x.2.1 * g by grind, show g * x.2.2.1 = x.2.2.1 * g by grind, show g * x.2.2.2 = x.2.2.2 * g by grind]
  rw [e, z] at this
  rw [this]
  grind
theorem fst4_nz {n : Nat} {x : G4} (s1 : Nz n x.1) (s2 : Nz n x.2.1) (s3 : Nz n x.2.2.1) (s4 : Nz n x.2.2.2) : Nz n (fst4 x) := by
  unfold fst4
  split
  · exact s1
  split
  · exact s2
  split
  · exact s3
  · exact s4
theorem w_dividedG {T : Tk} {n : Nat} {x g : Gi} {k : KD} (s : Nz n (x * g)) (sg : Nz n g) (g0 : g ≠ 0) (hn : n ≤ 2000) (h : k (gD x) T) : sm_divided [.val (gD (x * g)), .val (gD g)] T k := by
  refine w_divided (s.cz.mono (by omega)) (sg.cz.mono (by omega)) (Gi.nm_pos g0) ?_
  rw [cdivd_mulG g0]
  exact h

/-- a comprehension without a test, whose element is computed from the item alone -/
theorem lc_map {α : Type} {ρ : En} {c : dC1} {el : dE} {K : List D → Tk → Prop} {fi fo : α → D} : ∀ (xs : List α) (acc : List D) (T : Tk), (∀ x ∈ xs, ∃ ρ1, c (fi x) ρ = some ρ1 ∧ ∀ T (k : KD), k (fo x) T → el ρ1 T k) → K (acc ++ xs.map fo) T →
    lcD ρ c dYes el K (xs.map fi) acc T
  | [], acc, T, _, h => by
    rw [List.map_nil, List.append_nil] at h
    exact h
  | x :: xs, acc, T, hx, h => by
    obtain ⟨ρ1, e, q⟩ := hx x (List.mem_cons_self ..)
    rw [List.map_cons, lcD, e]
    show el ρ1 T _
    refine q _ _ ?_
    refine lc_map xs _ _ (fun y hy => hx y (List.mem_cons_of_mem _ hy)) ?_
    rw [List.append_assoc]
    exact h
theorem w_form_of {T : Tk} {n : Nat} {f : Int} {N : G4} {NS : D} {k : KD} (hN : NS.it? = some [gD N.1, gD N.2.1, gD N.2.2.1, gD N.2.2.2]) (s1 : Nz n N.1) (s2 : Nz n N.2.1) (s3 : Nz n N.2.2.1) (s4 : Nz n N.2.2.2) (hn : n ≤ 2000) (nz : fst4 N ≠ 0) (h : ∀ m, Fm n N m → k (mD f m) T) : sm_form_of [.val (.int f), .val NS] T k := by
  rw [e_form_of, b_form_of, k_ZERO]
  generalize e1 : dCall 2 sm_divided (aCons (dVar 4) (aCons (dVar 2) (aNil))) = el1
  generalize e2 : dCall 2 sm_times (aCons (dVar 4) (aCons (dVar 5) (aNil))) = el2
  walk_at "evm"
  refine w_divisor_of_all hN s1 s2 s3 s4 hn fun g gd ng => ?_
  obtain ⟨N1, N2, N3, N4⟩ := N
  obtain ⟨⟨x1, q1⟩, ⟨x2, q2⟩, ⟨x3, q3⟩, ⟨x4, q4⟩, u, v, w, t, es⟩ := gd
  simp only at q1 q2 q3 q4
  subst q1 q2 q3 q4
  obtain ⟨g0, f0⟩ := fst4_zero (x := (x1, x2, x3, x4)) nz
  have fin := h _ (fm_of (x := (x1, x2, x3, x4)) g0 ⟨u, v, w, t, es⟩ f0 s1 s2 s3 s4)
  have y1 := Nz.dvd (a := x1) g0 (by rw [show g * x1 = x1 * g by grind]; exact s1)
  have y2 := Nz.dvd (a := x2) g0 (by rw [show g * x2 = x2 * g by grind]; exact s2)
  have y3 := Nz.dvd (a := x3) g0 (by rw [show g * x3 = x3 * g by grind]; exact s3)
  have y4 := Nz.dvd (a := x4) g0 (by rw [show g * x4 = x4 * g by grind]; exact s4)
  have nf := fst4_nz (x := (x1, x2, x3, x4)) y1 y2 y3 y4
  obtain ⟨r, er⟩ := nzG_head f0
  simp only at er
  have nu : Nz 1 (guni (fst4 (x1, x2, x3, x4))) := by unfold Nz; rw [guni_nm]; decide
  walk_at "evm"
  simp only [hN]
  refine ⟨by simp, ?_⟩
  refine lc_map (fi := fun x => gD (x * g)) (fo := gD) [x1, x2, x3, x4] _ _ (fun x hx => ⟨_, rfl, fun T k hk => ?_⟩) ?_
  · have sx : Nz n (x * g) := by
      simp only [List.mem_cons, List.not_mem_nil, or_false] at hx
      rcases hx with rfl | rfl | rfl | rfl
      · exact s1
      · exact s2
      · exact s3
      · exact s4
    rw [← e1]
    walk_at "evm"
    exact w_dividedG (x := x) (g := g) sx ng g0 hn hk
  rw [List.nil_append, List.map_cons, List.map_cons, List.map_cons, List.map_cons, List.map_nil]
  walk_at "evm"
  refine lc_nzK [x1, x2, x3, x4] _ _ _ ?_
  rw [List.nil_append, er, List.map_cons]
  walk_at "evm"
  refine w_unit_for (nf.cz.mono (by omega)) fun p hp => ?_
  have ep : D.tup [.int p.1, .int p.2] = gD (guni (fst4 (x1, x2, x3, x4))) := by rw [hp]; rfl
  rw [ep]
  walk_at "evm"
  refine lc_map (fi := gD) (fo := fun x => gD (x * guni (fst4 (x1, x2, x3, x4)))) [x1, x2, x3, x4] _ _ (fun x hx => ⟨_, rfl, fun T k hk => ?_⟩) ?_
  · have sx : Nz n x := by
      simp only [List.mem_cons, List.not_mem_nil, or_false] at hx
      rcases hx with rfl | rfl | rfl | rfl
      · exact y1
      · exact y2
      · exact y3
      · exact y4
    rw [← e2]
    walk_at "evm"
    exact w_timesG sx.cz nu.cz (by omega) (by omega) hk
  rw [List.nil_append]
  walk_at "evm"
  first | exact fin | exact ⟨by simp, fin⟩ | exact ⟨by decide, fin⟩

theorem w_scaled {T : Tk} {n : Nat} {a : Gi} {c : Int} {k : KD} (ha : Cz n (a.re, a.im)) (hc : Sz n c) (hn : n ≤ 100000) (h : k (.tup [.int (c * a.re), .int (c * a.im)]) T) : sm_scaled [.val (gD a), .val (.int c)] T k := by
  rw [e_scaled, b_scaled]
  walk_at "evn"
  exact ⟨hc.mulOk ha.1 (by omega) (by omega), hc.mulOk ha.2 (by omega) (by omega), h⟩
theorem w_determinant {T : Tk} {n : Nat} {f : Int} {m : G4} {k : KD} (s1 : Nz n m.1) (s2 : Nz n m.2.1) (s3 : Nz n m.2.2.1) (s4 : Nz n m.2.2.2) (hn : n ≤ 2000) (h : k (gD (dtG m)) T) : sm_determinant [.val (mD f m)] T k := by
  rw [e_determinant, b_determinant]
  walk_at "evn"
  refine w_timesG s1.cz s4.cz (by omega) (by omega) ?_
  walk_at "evn"
  refine w_timesG s2.cz s3.cz (by omega) (by omega) ?_
  walk_at "evn"
  exact w_minusG h
theorem w_is_flag {T : Tk} {f : Int} {k : KD} (hf : f = 0 ∨ f = 1) (h : k (.bl true) T) : sm_is_flag [.val (.int f)] T k := by
  rw [e_is_flag, b_is_flag]
  walk_at "evn"
  refine w_is_whole ?_
  walk_at "evn"
  refine ⟨⟨ok_int, ok_cx⟩, ?_⟩
  rcases hf with rfl | rfl <;> simpa using h
theorem cz_ap {n a : Nat} {f : Int} {q : P3} {u v : Gi} (su : Nz n u) (sv : Nz n v) (hq : Pt a q) : Cz (n + a + 2) ((u * fl f (zG q) + v * rG q).re, (u * fl f (zG q) + v * rG q).im) := by
  have cz : Cz a ((fl f (zG q)).re, (fl f (zG q)).im) := by
    unfold fl
    split
    · exact ⟨hq.s1, hq.s2.neg⟩
    · exact ⟨hq.s1, hq.s2⟩
  have cr : Cz a ((rG q).re, (rG q).im) := ⟨hq.s3, sz_0⟩
  exact ((su.cz.mul cz).add (sv.cz.mul cr)).mono (by omega)
theorem ok_mD {f : Int} {m : G4} : (mD f m).eqOk := ⟨rfl, rfl⟩
/-- a map as the program has it -/
structure Mq (n : Nat) (f : Int) (m : G4) : Prop where
  fl : f = 0 ∨ f = 1
  mp : Mp m
  dt : dtG m ≠ 0
  s1 : Nz n m.1
  s2 : Nz n m.2.1
  s3 : Nz n m.2.2.1
  s4 : Nz n m.2.2.2
theorem Mq.mono {l n : Nat} {f : Int} {m : G4} (h : Mq l f m) (q : l ≤ n) : Mq n f m := ⟨h.fl, h.mp, h.dt, h.s1.mono q, h.s2.mono q, h.s3.mono q, h.s4.mono q⟩
theorem one_ne : (1 : Gi) ≠ 0 := fun z => absurd (congrArg Gi.re z) (by decide)
theorem scl_one (m : G4) : scl 1 m = m := by
  obtain ⟨a, b, c, d⟩ := m
  unfold scl
  simp only [Prod.mk.injEq]
  refine ⟨?_, ?_, ?_, ?_⟩ <;> grind
theorem Mq.fm {n : Nat} {f : Int} {m : G4} (h : Mq n f m) : Fm n m m := ⟨h.mp, ⟨1, one_ne, (scl_one m).symm⟩, h.s1, h.s2, h.s3, h.s4⟩
theorem Fm.mq {n : Nat} {f : Int} {N m : G4} (h : Fm n N m) (hf : f = 0 ∨ f = 1) (d : dtG N ≠ 0) : Mq n f m := by
  obtain ⟨c, c0, e⟩ := h.c
  refine ⟨hf, h.mp, fun z => d ?_, h.s1, h.s2, h.s3, h.s4⟩
  rw [e, dt_scl, z]
  grind
theorem Fm.led {l n : Nat} {f : Int} {N m : G4} {q t : P3} (h : Fm l N m) (hl : Led n f N q t) : Led n f m q t := by
  obtain ⟨c, c0, e⟩ := h.c
  rw [e] at hl
  exact hl.scl c0
/-- along one another -/
theorem Fm.along {l n : Nat} {N N' m m' : G4} {c c' : Gi} (h : Fm l N m) (h' : Fm n N' m') (c0 : c ≠ 0) (c0' : c' ≠ 0) (e : scl c N = scl c' N') : m = m' := by
  obtain ⟨d, d0, k⟩ := h.c
  obtain ⟨d', d0', k'⟩ := h'.c
  rw [k, k'] at e
  have ss : ∀ (a b : Gi) (x : G4), scl a (scl b x) = scl (a * b) x := fun a b x => by
    unfold scl
    simp only [Prod.mk.injEq]
    refine ⟨?_, ?_, ?_, ?_⟩ <;> grind
  rw [ss, ss] at e
  exact mp_uniq h.mp h'.mp (Gi.mul_ne c0 d0) (Gi.mul_ne c0' d0') e

abbrev g1 : G4 := (1, 0, 0, 1)
theorem mp_g1 : Mp g1 := ⟨⟨1, 0, 0, 0, by simp only; grind⟩, by unfold Qf; decide⟩
theorem nz_01 {n : Nat} (h : 1 ≤ n) : Nz n 0 ∧ Nz n 1 := by
  have : (2 : Int) ^ 1 ≤ 2 ^ n := by exact_mod_cast Nat.pow_le_pow_right (n := 2) (by decide) h
  have e : (2 : Int) ^ 1 = 2 := rfl
  constructor
  · unfold Nz; rw [Gi.nm_of_zero]; omega
  · unfold Nz; show (1 : Int) * 1 + 0 * 0 < _; omega
theorem fm_g1 : Fm 1 g1 g1 := ⟨mp_g1, ⟨1, one_ne, (scl_one _).symm⟩, (nz_01 (Nat.le_refl _)).2, (nz_01 (Nat.le_refl _)).1, (nz_01 (Nat.le_refl _)).1, (nz_01 (Nat.le_refl _)).2⟩
theorem Fm.left {l n b : Nat} {f : Int} {m m' x : G4} (hm : Mq n f m) (h : Fm l (Bk f m) m') (h' : Fm b (Pr f m' m) x) : x = g1 := by
  obtain ⟨c, c0, e⟩ := h.c
  have k : scl (c * fl f 1) (Pr f m' m) = scl (fl f (dtG m)) g1 := by
    rw [← pr_scl, scl_one, ← e]
    exact (pr_back hm.fl m).1
  exact h'.along fm_g1 (Gi.mul_ne c0 (fl_ne one_ne)) (fl_ne hm.dt) k
theorem Fm.right {l n b : Nat} {f : Int} {m m' x : G4} (hm : Mq n f m) (h : Fm l (Bk f m) m') (h' : Fm b (Pr f m m') x) : x = g1 := by
  obtain ⟨c, c0, e⟩ := h.c
  have k : scl (1 * fl f c) (Pr f m m') = scl (dtG m) g1 := by
    rw [← pr_scl, scl_one, ← e]
    exact (pr_back hm.fl m).2
  exact h'.along fm_g1 (Gi.mul_ne one_ne (fl_ne c0)) hm.dt k
theorem Led.of_one {l n : Nat} {q t : P3} (hq : Pt l q) (h : Led n 0 g1 q t) : t = q := by
  have e : HG n t (zG q) (rG q) := by
    have := h
    unfold Led at this
    have e1 : apz g1 (fl 0 (zG q)) (rG q) = zG q := by unfold apz fl; rw [if_neg (by decide)]; simp only; grind
    have e2 : apw g1 (fl 0 (zG q)) (rG q) = rG q := by unfold apw fl; simp only; grind
    rw [e1, e2] at this
    exact this
  exact e.uniq (HG.self hq)
/-- there and back -/
theorem Led.back {a b l n c : Nat} {f : Int} {m m' : G4} {q t s : P3} (hm : Mq n f m) (h : Fm l (Bk f m) m') (hm' : dtG m' ≠ 0) (hq : Pt c q) (h1 : Led a f m q t) (h2 : Led b f m' t s) : s = q := by
  have k := Led.two (a := 0) hm' hm.fl hm.fl h1 h2
  have e0 : ((f + f) % 2 : Int) = 0 := by rcases hm.fl with e | e <;> rw [e] <;> rfl
  rw [e0] at k
  obtain ⟨d, d0, e⟩ := h.c
  have k1 : G.scl (d * fl f 1) (Pr f m' m) = G.scl (fl f (dtG m)) g1 := by
    rw [← pr_scl, scl_one, ← e]
    exact (pr_back hm.fl m).1
  have k2 : Led b 0 (G.scl (d * fl f 1) (Pr f m' m)) q s := by
    unfold Led at k ⊢
    rw [(ap_scl _ _ _ _).1, (ap_scl _ _ _ _).2]
    have d1 := Gi.mul_ne d0 (fl_ne (f := f) one_ne)
    refine k.tr (fun ⟨x, y⟩ => k.nz ⟨(Gi.mul_zero' x).resolve_left d1, (Gi.mul_zero' y).resolve_left d1⟩) (by grind)
  rw [k1] at k2
  exact (k2.scl (fl_ne hm.dt)).of_one hq
theorem Fm.anti {a b c d e p q : Nat} {f g : Int} {m1 m2 m12 b1 b2 x y : G4} (h1 : Mq p f m1) (h2 : Mq q g m2) (h : Fm a (Pr f m1 m2) m12) (hb1 : Fm b (Bk f m1) b1) (hb2 : Fm c (Bk g m2) b2) (hx : Fm d (Bk ((f + g) % 2) m12) x) (hy : Fm e (Pr g b2 b1) y) : x = y := by
  obtain ⟨c0, z0, e0⟩ := h.c
  obtain ⟨c1, z1, e1⟩ := hb1.c
  obtain ⟨c2, z2, e2⟩ := hb2.c
  refine hx.along hy (fl_ne (f := (f + g) % 2) z0) (Gi.mul_ne z2 (fl_ne (f := g) z1)) ?_
  rw [← bk_scl, ← e0, bk_pr h1.fl h2.fl, e1, e2, pr_scl]
theorem Fm.ass {a b c d p q : Nat} {f g : Int} {m1 m2 m3 x y z w : G4} (h1 : Mq p f m1) (h2 : Mq q g m2) (hx : Fm a (Pr f m1 m2) x) (hy : Fm b (Pr ((f + g) % 2) x m3) y) (hz : Fm c (Pr g m2 m3) z) (hw : Fm d (Pr f m1 z) w) : w = y := by
  obtain ⟨c0, z0, e0⟩ := hx.c
  obtain ⟨c1, z1, e1⟩ := hz.c
  refine hw.along hy (Gi.mul_ne one_ne (fl_ne (f := f) z1)) (Gi.mul_ne z0 (fl_ne (f := (f + g) % 2) one_ne)) ?_
  rw [← pr_scl, ← pr_scl, ← e0, ← e1, scl_one, scl_one, pr_assoc h1.fl h2.fl]
theorem dt_pr {f : Int} {m n : G4} (h : dtG m ≠ 0) (q : dtG n ≠ 0) : dtG (Pr f m n) ≠ 0 := by
  unfold Pr
  rw [dt_mul, dt_fl]
  exact Gi.mul_ne h (fl_ne q)
theorem dt_bk {f : Int} {m : G4} (h : dtG m ≠ 0) : dtG (Bk f m) ≠ 0 := by
  unfold Bk
  rw [dt_fl, dt_adj]
  exact fl_ne h
theorem nz_fl {n : Nat} {f : Int} {a : Gi} (h : Nz n a) : Nz n (fl f a) := by unfold fl; split; exact h.cj; exact h
structure N4 (n : Nat) (m : G4) : Prop where
  s1 : Nz n m.1
  s2 : Nz n m.2.1
  s3 : Nz n m.2.2.1
  s4 : Nz n m.2.2.2
theorem Mq.n4 {n : Nat} {f : Int} {m : G4} (h : Mq n f m) : N4 n m := ⟨h.s1, h.s2, h.s3, h.s4⟩
theorem n4_bk {n : Nat} {f : Int} {m : G4} (h : N4 n m) : N4 n (Bk f m) := ⟨nz_fl h.s4, nz_fl h.s2.neg, nz_fl h.s3.neg, nz_fl h.s1⟩
theorem n4_pr {l n : Nat} {f : Int} {m m' : G4} (h : N4 l m) (q : N4 n m') : N4 (l + n + 2) (Pr f m m') :=
  ⟨(h.s1.mul (nz_fl q.s1)).add (h.s2.mul (nz_fl q.s3)), (h.s1.mul (nz_fl q.s2)).add (h.s2.mul (nz_fl q.s4)), (h.s3.mul (nz_fl q.s1)).add (h.s4.mul (nz_fl q.s3)), (h.s3.mul (nz_fl q.s2)).add (h.s4.mul (nz_fl q.s4))⟩
theorem flag_add {f g : Int} (hf : f = 0 ∨ f = 1) (hg : g = 0 ∨ g = 1) : (f + g) % 2 = 0 ∨ (f + g) % 2 = 1 := by omega
theorem Mq.bk {n l : Nat} {f : Int} {m m' : G4} (h : Mq n f m) (q : Fm l (Bk f m) m') : Mq l f m' := q.mq h.fl (dt_bk h.dt)
theorem Mq.pr {n l b : Nat} {f g : Int} {m m' x : G4} (h : Mq n f m) (h' : Mq l g m') (q : Fm b (Pr f m m') x) : Mq b ((f + g) % 2) x := q.mq (flag_add h.fl h'.fl) (dt_pr h.dt h'.dt)
theorem lite_gD {n : Nat} {a : Gi} (h : Nz n a) (l : n ≤ 1900) : (gD a).lite := lite_cx h.cz l
theorem lite_mD {n : Nat} {f : Int} {m : G4} (hf : f = 0 ∨ f = 1) (h : N4 n m) (l : n ≤ 1900) : (mD f m).lite :=
  lite_tup (liteL_cons (Sz.lite (n := 1) (by rcases hf with rfl | rfl <;> unfold Sz <;> decide) (by decide)) (liteL_cons (lite_gD h.s1 l) (liteL_cons (lite_gD h.s2 l) (liteL_cons (lite_gD h.s3 l) (liteL_cons (lite_gD h.s4 l) liteL_nil)))))

theorem w_is_map {T : Tk} {n : Nat} {f : Int} {m : G4} {k : KD} (hm : Mq n f m) (hn : n ≤ 2000) (h : k (.bl true) T) : sm_is_map [.val (mD f m)] T k := by
  rw [e_is_map, b_is_map, k_ZERO]
  walk_at "evn"
  refine w_is_flag hm.fl ?_
  walk_at "evn"
  refine w_is_complex ?_
  walk_at "evn"
  refine w_is_complex ?_
  walk_at "evn"
  refine w_is_complex ?_
  walk_at "evn"
  refine w_is_complex ?_
  walk_at "evn"
  rw [if_neg (by decide)]
  refine ⟨⟨ok_pDs [], ok_pDs []⟩, ?_⟩
  refine w_determinant hm.s1 hm.s2 hm.s3 hm.s4 hn ?_
  walk_at "evn"
  refine ⟨⟨ok_cx, ok_cx⟩, ?_⟩
  rw [if_neg (fun z => hm.dt (Gi.eq0.mp z))]
  refine w_form_of (NS := .tup [gD m.1, gD m.2.1, gD m.2.2.1, gD m.2.2.2]) rfl hm.s1 hm.s2 hm.s3 hm.s4 hn (dt_fst hm.dt) fun m' hm' => ?_
  obtain rfl := hm.fm.uniq hm'
  walk_at "evn"
  refine ⟨⟨ok_mD, ok_mD⟩, ?_⟩
  have e : (decide True) = true := rfl
  simpa only [and_self, decide_true] using h
theorem w_check_map {T : Tk} {n : Nat} {f : Int} {m : G4} {k : KD} (hm : Mq n f m) (hn : n ≤ 2000) (h : k .non T) : sm_check_map [.val (mD f m)] T k := by
  rw [e_check_map, b_check_map]
  walk_at "evn"
  refine w_is_map hm hn ?_
  walk_at "evn"
  simpa using h
theorem w_led_by {T : Tk} {n a : Nat} {f : Int} {m : G4} {q : P3} {k : KD} (hm : Mq n f m) (hq : Pt a q) (hn : n + a ≤ 3990) (h : ∀ t, Led (2 * (n + a + 2) + 1) f m q t → k (pD t) T) : sm_led_by [.val (mD f m), .val (pD q)] T k := by
  have go : ∀ zf : Gi, zf = fl f (zG q) → (sm_times [.val (gD m.1), .val (gD zf)] T fun d T1 => sm_scaled [.val (gD m.2.1), .val (.int q.2.2)] T1 fun d_1 T1 => sm_plus [.val d, .val d_1] T1 fun d T1 => sm_times [.val (gD m.2.2.1), .val (gD zf)] T1 fun d_2 T1 => sm_scaled [.val (gD m.2.2.2), .val (.int q.2.2)] T1 fun d_3 T1 => sm_plus [.val d_2, .val d_3] T1 fun d_4 T1 => sm_quotient_place [.val d, .val d_4] T1 k) := by
    rintro zf rfl
    have cz : Cz a ((fl f (zG q)).re, (fl f (zG q)).im) := by
      unfold fl
      split
      · exact ⟨hq.s1, hq.s2.neg⟩
      · exact ⟨hq.s1, hq.s2⟩
    have sc : ∀ (b : Gi) (k : KD) (T : Tk), Nz n b → k (gD (b * rG q)) T → sm_scaled [.val (gD b), .val (.int q.2.2)] T k := fun b k T sb hk => by
      refine w_scaled (n := n + a) (sb.cz.mono (by omega)) (hq.s3.mono (by omega)) (by omega) ?_
      have e : gD (b * rG q) = .tup [.int (q.2.2 * b.re), .int (q.2.2 * b.im)] := by
        show D.tup [.int (b.re * q.2.2 - b.im * 0), .int (b.re * 0 + b.im * q.2.2)] = _
        rw [Int.mul_zero, Int.mul_zero, Int.sub_zero, Int.zero_add, Int.mul_comm b.re, Int.mul_comm b.im]
      rw [← e]
      exact hk
    refine w_timesG hm.s1.cz cz (by omega) (by omega) ?_
    refine sc _ _ _ hm.s2 ?_
    refine w_plusG ?_
    refine w_timesG hm.s3.cz cz (by omega) (by omega) ?_
    refine sc _ _ _ hm.s4 ?_
    refine w_plusG ?_
    have nz := led_nz (f := f) hm.dt hq
    refine w_quotient_hp (n := n + a + 2) (z := ((m.1 * fl f (zG q) + m.2.1 * rG q).re, (m.1 * fl f (zG q) + m.2.1 * rG q).im)) (w := ((m.2.2.1 * fl f (zG q) + m.2.2.2 * rG q).re, (m.2.2.1 * fl f (zG q) + m.2.2.2 * rG q).im)) (cz_ap hm.s1 hm.s2 hq) (cz_ap hm.s3 hm.s4 hq) (by omega) (fun ⟨x, y⟩ => nz ⟨Gi.eq0.mp x, Gi.eq0.mp y⟩) fun t ht => h t ht.hg
  rw [e_led_by, b_led_by]
  walk_at "evn"
  refine (Decidable.em (f = 1)).elim (fun c => ?_) (fun c => ?_)
  · rw [if_pos c]
    exact go ⟨q.1, -q.2.1⟩ (by unfold fl; rw [if_pos c]; rfl)
  · rw [if_neg c]
    exact go ⟨q.1, q.2.1⟩ (by unfold fl; rw [if_neg c]; rfl)
theorem w_joined {T : Tk} {n l : Nat} {f g : Int} {m m' : G4} {k : KD} (hm : Mq n f m) (hm' : Mq l g m') (hn : n + l ≤ 1900) (h : ∀ x, Fm (n + l + 2) (Pr f m m') x → k (mD ((f + g) % 2) x) T) : sm_joined [.val (mD f m), .val (mD g m')] T k := by
  have N := n4_pr (f := f) hm.n4 hm'.n4
  have fin := fun (NS : D) (e : NS.it? = some [gD (Pr f m m').1, gD (Pr f m m').2.1, gD (Pr f m m').2.2.1, gD (Pr f m m').2.2.2]) => w_form_of (T := T) (f := (f + g) % 2) (k := k) e N.s1 N.s2 N.s3 N.s4 (by omega) (dt_fst (dt_pr hm.dt hm'.dt)) h
  rw [e_joined, b_joined]
  generalize e1 : dCall 1 sm_turned_over (aCons (dVar 3) (aNil)) = el1
  obtain ⟨a, b, c, d⟩ := m
  obtain ⟨p, q, r, s⟩ := m'
  have A1 := hm.s1
  have A2 := hm.s2
  have A3 := hm.s3
  have A4 := hm.s4
  have B1 := hm'.s1
  have B2 := hm'.s2
  have B3 := hm'.s3
  have B4 := hm'.s4
  simp only at A1 A2 A3 A4 B1 B2 B3 B4
  have tm : ∀ (u v : Gi) (k : KD) (T : Tk), Nz n u → Nz l v → k (gD (u * v)) T → sm_times [.val (gD u), .val (gD v)] T k := fun u v k T hu hv hk => w_timesG hu.cz hv.cz (by omega) (by omega) hk
  rcases hm.fl with rfl | rfl
  · walk_at "evm"
    refine tm _ _ _ _ A1 B1 ?_
    refine tm _ _ _ _ A2 B3 ?_
    refine w_plusG ?_
    refine tm _ _ _ _ A1 B2 ?_
    refine tm _ _ _ _ A2 B4 ?_
    refine w_plusG ?_
    refine tm _ _ _ _ A3 B1 ?_
    refine tm _ _ _ _ A4 B3 ?_
    refine w_plusG ?_
    refine tm _ _ _ _ A3 B2 ?_
    refine tm _ _ _ _ A4 B4 ?_
    refine w_plusG ?_
    exact fin _ rfl
  · walk_at "evm"
    refine lc_map (fi := gD) (fo := fun x => gD x.cj) [p, q, r, s] _ _ (fun x hx => ⟨_, rfl, fun T k hk => ?_⟩) ?_
    · rw [← e1]
      walk_at "evm"
      exact w_turnG hk
    rw [List.nil_append]
    walk_at "evm"
    refine tm _ _ _ _ A1 B1.cj ?_
    refine tm _ _ _ _ A2 B3.cj ?_
    refine w_plusG ?_
    refine tm _ _ _ _ A1 B2.cj ?_
    refine tm _ _ _ _ A2 B4.cj ?_
    refine w_plusG ?_
    refine tm _ _ _ _ A3 B1.cj ?_
    refine tm _ _ _ _ A4 B3.cj ?_
    refine w_plusG ?_
    refine tm _ _ _ _ A3 B2.cj ?_
    refine tm _ _ _ _ A4 B4.cj ?_
    refine w_plusG ?_
    exact fin _ rfl
theorem w_way_back {T : Tk} {n : Nat} {f : Int} {m : G4} {k : KD} (hm : Mq n f m) (hn : n ≤ 1900) (h : ∀ x, Fm n (Bk f m) x → k (mD f x) T) : sm_way_back [.val (mD f m)] T k := by
  have N := n4_bk (f := f) hm.n4
  have fin := fun (NS : D) (e : NS.it? = some [gD (Bk f m).1, gD (Bk f m).2.1, gD (Bk f m).2.2.1, gD (Bk f m).2.2.2]) => w_form_of (T := T) (f := f) (k := k) e N.s1 N.s2 N.s3 N.s4 (by omega) (dt_fst (dt_bk hm.dt)) h
  have sc : ∀ (b : Gi) (k : KD) (T : Tk), Nz n b → k (gD (-b)) T → sm_scaled [.val (gD b), .val (.int (-1))] T k := fun b k T sb hk => by
    refine w_scaled (n := n + 1) (sb.cz.mono (by omega)) ((show Sz 1 (-1) by unfold Sz; decide).mono (by omega)) (by omega) ?_
    have e : gD (-b) = .tup [.int (-1 * b.re), .int (-1 * b.im)] := by
      show D.tup [.int (-b.re), .int (-b.im)] = _
      rw [Int.neg_mul, Int.neg_mul, Int.one_mul, Int.one_mul]
    rw [← e]
    exact hk
  rw [e_way_back, b_way_back]
  generalize e1 : dCall 1 sm_turned_over (aCons (dVar 7) (aNil)) = el1
  rcases hm.fl with rfl | rfl
  · walk_at "evm"
    refine sc _ _ _ hm.s2 ?_
    walk_at "evm"
    refine sc _ _ _ hm.s3 ?_
    walk_at "evm"
    exact fin _ rfl
  · walk_at "evm"
    refine sc _ _ _ hm.s2 ?_
    walk_at "evm"
    refine sc _ _ _ hm.s3 ?_
    walk_at "evm"
    refine lc_map (fi := gD) (fo := fun x => gD x.cj) [m.2.2.2, -m.2.1, -m.2.2.1, m.1] _ _ (fun x hx => ⟨_, rfl, fun T k hk => ?_⟩) ?_
    · rw [← e1]
      walk_at "evm"
      exact w_turnG hk
    rw [List.nil_append]
    walk_at "evm"
    exact fin _ rfl
theorem nz_of {n : Nat} {a b : Int} (h : Sz n a) (q : Sz n b) : Nz (2 * n + 2) ⟨a, b⟩ := by
  have h1 : Sz (n + n + 1) (a * a + b * b) := ((h.mul h).add (q.mul q)).mono (by omega)
  have nn := Gi.nm_nn ⟨a, b⟩
  unfold Nz
  unfold Sz at h1
  have e : (⟨a, b⟩ : Gi).nm = a * a + b * b := rfl
  rw [e] at nn ⊢
  have l : (2 : Int) ^ (n + n + 1) ≤ 2 ^ (2 * n + 2) := by exact_mod_cast Nat.pow_le_pow_right (n := 2) (by decide) (by omega)
  have h2 : ((a * a + b * b).natAbs : Int) < 2 ^ (n + n + 1) := by exact_mod_cast h1
  omega
theorem dec_gi {a : Gi} : (decide (a.re = 0) && decide (a.im = 0)) = decide (a = 0) := by
  by_cases q : a = 0
  · rw [q]; rfl
  · have : ¬(a.re = 0 ∧ a.im = 0) := fun z => q (Gi.eq0.mp z)
    rw [decide_eq_false q]
    simpa using this
theorem Led.pt {n : Nat} {f : Int} {m : G4} {q t : P3} (h : Led n f m q t) : Pt n t := HG.pt h
theorem Mq.lite {n : Nat} {f : Int} {m : G4} (h : Mq n f m) (l : n ≤ 1900) : (mD f m).lite := lite_mD h.fl h.n4 l
theorem dt_g1 : dtG g1 ≠ 0 := fun z => absurd (congrArg Gi.re z) (by decide)
theorem Mq.g1 : Mq 1 0 L2.G.g1 := fm_g1.mq (.inl rfl) dt_g1

/-! rows led back by maps -/
def mulR (g : Int) (r : R4) : R4 := (g * r.1, g * r.2.1, g * r.2.2.1, g * r.2.2.2)
def addR (x y : R4) : R4 := (x.1 + y.1, x.2.1 + y.2.1, x.2.2.1 + y.2.2.1, x.2.2.2 + y.2.2.2)
def be (r : R4) : Gi := ⟨r.2.1, -r.2.2.1⟩
def valG (r : R4) (z w : Gi) : Int := r.1 * z.nm + (be r * (z * w.cj)).re + r.2.2.2 * w.nm
def RB0 (m : G4) (r : R4) : R4 :=
  (r.1 * m.1.nm + (be r * (m.1 * m.2.2.1.cj)).re + r.2.2.2 * m.2.2.1.nm,
   2 * r.1 * (m.1 * m.2.1.cj).re + (be r * (m.1 * m.2.2.2.cj)).re + ((be r).cj * (m.2.1.cj * m.2.2.1)).re + 2 * r.2.2.2 * (m.2.2.1 * m.2.2.2.cj).re,
   -(2 * r.1 * (m.1 * m.2.1.cj).im + (be r * (m.1 * m.2.2.2.cj)).im + ((be r).cj * (m.2.1.cj * m.2.2.1)).im + 2 * r.2.2.2 * (m.2.2.1 * m.2.2.2.cj).im),
   r.1 * m.2.1.nm + (be r * (m.2.1 * m.2.2.2.cj)).re + r.2.2.2 * m.2.2.2.nm)
def flR (f : Int) (r : R4) : R4 := (r.1, r.2.1, if f = 1 then -r.2.2.1 else r.2.2.1, r.2.2.2)
def RB (f : Int) (m : G4) (r : R4) : R4 := flR f (RB0 m r)
theorem val_G (r : R4) (q : P3) : val4 r q = valG r (zG q) (rG q) := by
  unfold val4 valG be zG rG Gi.nm Gi.cj
  simp only [Gi.mul_re, Gi.mul_im]
  grind
theorem rb0_val (m : G4) (r : R4) (z w : Gi) : valG (RB0 m r) z w = valG r (apz m z w) (apw m z w) := by
  obtain ⟨⟨a, a'⟩, ⟨b, b'⟩, ⟨c, c'⟩, ⟨d, d'⟩⟩ := m
  obtain ⟨q, l, n, k⟩ := r
  obtain ⟨z, z'⟩ := z
  obtain ⟨w, w'⟩ := w
  unfold valG RB0 be apz apw Gi.nm Gi.cj
  simp only [Gi.mul_re, Gi.mul_im, Gi.add_re, Gi.add_im]
  grind
theorem flR_val (f : Int) (r : R4) (z w : Gi) : valG (flR f r) z w = valG r (fl f z) (fl f w) := by
  unfold valG flR fl be
  split
  · unfold Gi.nm Gi.cj
    simp only [Gi.mul_re, Gi.mul_im]
    grind
  · rfl
theorem rb_val (f : Int) (m : G4) (r : R4) (z w : Gi) : valG (RB f m r) z w = valG r (apz m (fl f z) (fl f w)) (apw m (fl f z) (fl f w)) := by
  unfold RB
  rw [flR_val, rb0_val]
theorem val_ext {r r' : R4} (h : ∀ z w, valG r z w = valG r' z w) : r = r' := by
  have h1 := h ⟨1, 0⟩ ⟨0, 0⟩
  have h2 := h ⟨0, 0⟩ ⟨1, 0⟩
  have h3 := h ⟨1, 0⟩ ⟨1, 0⟩
  have h4 := h ⟨0, 1⟩ ⟨1, 0⟩
  obtain ⟨q, l, n, k⟩ := r
  obtain ⟨q', l', n', k'⟩ := r'
  unfold valG be Gi.nm Gi.cj at h1 h2 h3 h4
  simp only [Gi.mul_re, Gi.mul_im] at h1 h2 h3 h4
  have e1 : q = q' := by omega
  have e2 : k = k' := by omega
  have e3 : l = l' := by omega
  have e4 : n = n' := by omega
  rw [e1, e2, e3, e4]
theorem mulR_val (g : Int) (r : R4) (z w : Gi) : valG (mulR g r) z w = g * valG r z w := by
  unfold valG mulR be Gi.nm Gi.cj
  simp only [Gi.mul_re, Gi.mul_im]
  grind
theorem addR_val (x y : R4) (z w : Gi) : valG (addR x y) z w = valG x z w + valG y z w := by
  unfold valG addR be Gi.nm Gi.cj
  simp only [Gi.mul_re, Gi.mul_im]
  grind
theorem val_scl (r : R4) (c z w : Gi) : valG r (c * z) (c * w) = c.nm * valG r z w := by
  unfold valG be Gi.nm Gi.cj
  simp only [Gi.mul_re, Gi.mul_im]
  grind
theorem fl_mul (f : Int) (a b : Gi) : fl f (a * b) = fl f a * fl f b := by
  unfold fl; split
  · exact Gi.cj_mul a b
  · rfl
theorem fl_add (f : Int) (a b : Gi) : fl f (a + b) = fl f a + fl f b := by
  unfold fl; split
  · exact Gi.cj_add a b
  · rfl
theorem fl_nm (f : Int) (a : Gi) : (fl f a).nm = a.nm := by
  unfold fl; split
  · exact Gi.nm_cj a
  · rfl
theorem fl_fl {f g : Int} (hf : f = 0 ∨ f = 1) (hg : g = 0 ∨ g = 1) (a : Gi) : fl g (fl f a) = fl ((f + g) % 2) a := by
  rcases hf with rfl | rfl <;> rcases hg with rfl | rfl <;> simp [fl, Gi.cj_cj]
theorem rb_mul (f g : Int) (m : G4) (r : R4) : RB f m (mulR g r) = mulR g (RB f m r) := val_ext fun z w => by rw [rb_val, mulR_val, mulR_val, rb_val]
theorem rb_add (f : Int) (m : G4) (x y : R4) : RB f m (addR x y) = addR (RB f m x) (RB f m y) := val_ext fun z w => by rw [rb_val, addR_val, addR_val, rb_val, rb_val]
theorem rb_scl (f : Int) (c : Gi) (m : G4) (r : R4) : RB f (scl c m) r = mulR c.nm (RB f m r) := val_ext fun z w => by
  rw [rb_val, mulR_val, rb_val, (ap_scl c m _ _).1, (ap_scl c m _ _).2, val_scl]
theorem rb_comp {f g : Int} (hf : f = 0 ∨ f = 1) (hg : g = 0 ∨ g = 1) (m n : G4) (r : R4) : RB f m (RB g n r) = RB ((f + g) % 2) (Pr g n m) r := val_ext fun z w => by
  rw [rb_val, rb_val, rb_val]
  have e1 : fl g (apz m (fl f z) (fl f w)) = apz (flm g m) (fl ((f + g) % 2) z) (fl ((f + g) % 2) w) := by
    unfold apz flm
    rw [fl_add, fl_mul, fl_mul, fl_fl hf hg, fl_fl hf hg]
  have e2 : fl g (apw m (fl f z) (fl f w)) = apw (flm g m) (fl ((f + g) % 2) z) (fl ((f + g) % 2) w) := by
    unfold apw flm
    rw [fl_add, fl_mul, fl_mul, fl_fl hf hg, fl_fl hf hg]
  rw [e1, e2]
  unfold Pr
  rw [(ap_mul n (flm g m) _ _).1, (ap_mul n (flm g m) _ _).2]
theorem rb_one (r : R4) : RB 0 (1, 0, 0, 1) r = r := val_ext fun z w => by
  rw [rb_val]
  have e1 : apz (1, 0, 0, 1) (fl 0 z) (fl 0 w) = z := by unfold apz fl; simp only; grind
  have e2 : apw (1, 0, 0, 1) (fl 0 z) (fl 0 w) = w := by unfold apw fl; simp only; grind
  rw [e1, e2]
/-- back and there again -/
theorem rb_back {f : Int} (hf : f = 0 ∨ f = 1) (m : G4) (r : R4) : RB f m (RB f (Bk f m) r) = mulR (dtG m).nm r := by
  have e : (f + f) % 2 = 0 := by omega
  rw [rb_comp hf hf, e, (pr_back hf m).1, rb_scl, rb_one, fl_nm]
theorem bnd_mulR (g : Int) (r : R4) : bnd (mulR g r) = g * g * bnd r := by unfold bnd mulR; simp only; grind
theorem jn_mulR (g h : Int) (x y : R4) : jn (mulR g x) (mulR h y) = g * h * jn x y := by unfold jn mulR; simp only; grind
theorem bnd_addR (x y : R4) : bnd (addR x y) = bnd x + bnd y + 2 * jn x y := by unfold bnd jn addR; simp only; grind
theorem bnd_flR (f : Int) (r : R4) : bnd (flR f r) = bnd r := by unfold bnd flR; simp only; split <;> grind
def io (n : Int) : Gi := ⟨n, 0⟩
theorem io_inj {a b : Int} (h : io a = io b) : a = b := congrArg Gi.re h
theorem bnd_io (r : R4) : io (bnd r) = be r * (be r).cj - io (2 * r.1) * io (2 * r.2.2.2) := by
  refine Gi.ext' ?_ ?_
  · unfold bnd io be Gi.cj; simp only [Gi.mul_re, Gi.sub_re]; grind
  · unfold io be Gi.cj; simp only [Gi.mul_im, Gi.sub_im]; grind
theorem nm_io (a : Gi) : io a.nm = a * a.cj := by
  refine Gi.ext' ?_ ?_
  · unfold io Gi.nm Gi.cj; simp only [Gi.mul_re]; grind
  · unfold io Gi.cj; simp only [Gi.mul_im]; grind
theorem io_mul (a b : Int) : io (a * b) = io a * io b := Gi.ext' (by unfold io; simp only [Gi.mul_re]; grind) (by unfold io; simp only [Gi.mul_im]; grind)
theorem bnd_rb (f : Int) (m : G4) (r : R4) : bnd (RB f m r) = (dtG m).nm * bnd r := by
  unfold RB
  rw [bnd_flR]
  apply io_inj
  rw [io_mul, nm_io, bnd_io, bnd_io]
  obtain ⟨a, b, c, d⟩ := m
  have q1 : io (2 * (RB0 (a, b, c, d) r).1) = (io (2 * r.1) * a + (be r).cj * c) * a.cj + (be r * a + io (2 * r.2.2.2) * c) * c.cj := by
    obtain ⟨q, l, n, k⟩ := r
    refine Gi.ext' ?_ ?_
    · unfold RB0 io be Gi.nm Gi.cj; simp only [Gi.mul_re, Gi.mul_im, Gi.add_re, Gi.add_im]; grind
    · unfold RB0 io be Gi.cj; simp only [Gi.mul_re, Gi.mul_im, Gi.add_re, Gi.add_im]; grind
  have q2 : io (2 * (RB0 (a, b, c, d) r).2.2.2) = (io (2 * r.1) * b + (be r).cj * d) * b.cj + (be r * b + io (2 * r.2.2.2) * d) * d.cj := by
    obtain ⟨q, l, n, k⟩ := r
    refine Gi.ext' ?_ ?_
    · unfold RB0 io be Gi.nm Gi.cj; simp only [Gi.mul_re, Gi.mul_im, Gi.add_re, Gi.add_im]; grind
    · unfold RB0 io be Gi.cj; simp only [Gi.mul_re, Gi.mul_im, Gi.add_re, Gi.add_im]; grind
  have q3 : be (RB0 (a, b, c, d) r) = (io (2 * r.1) * a + (be r).cj * c) * b.cj + (be r * a + io (2 * r.2.2.2) * c) * d.cj := by
    obtain ⟨q, l, n, k⟩ := r
    refine Gi.ext' ?_ ?_
    · unfold RB0 io be Gi.cj; simp only [Gi.mul_re, Gi.mul_im, Gi.add_re, Gi.add_im]; grind
    · unfold RB0 io be Gi.cj; simp only [Gi.mul_re, Gi.mul_im, Gi.add_re, Gi.add_im]; grind
  have q4 : (be (RB0 (a, b, c, d) r)).cj = (io (2 * r.1) * b + (be r).cj * d) * a.cj + (be r * b + io (2 * r.2.2.2) * d) * c.cj := by
    obtain ⟨q, l, n, k⟩ := r
    refine Gi.ext' ?_ ?_
    · unfold RB0 io be Gi.cj; simp only [Gi.mul_re, Gi.mul_im, Gi.add_re, Gi.add_im]; grind
    · unfold RB0 io be Gi.cj; simp only [Gi.mul_re, Gi.mul_im, Gi.add_re, Gi.add_im]; grind
  have q5 : (dtG (a, b, c, d)).cj = a.cj * d.cj - b.cj * c.cj := by unfold dtG; rw [Gi.cj_sub, Gi.cj_mul, Gi.cj_mul]
  rw [q1, q2, q4, q3, q5]
  unfold dtG
  generalize io (2 * r.1) = Q
  generalize io (2 * r.2.2.2) = K
  generalize (be r).cj = B'
  generalize be r = B
  generalize a.cj = A'
  generalize b.cj = B2
  generalize c.cj = C'
  generalize d.cj = D'
  simp only
  grind
theorem jn_rb (f : Int) (m : G4) (x y : R4) : jn (RB f m x) (RB f m y) = (dtG m).nm * jn x y := by
  have h := bnd_rb f m (addR x y)
  rw [rb_add, bnd_addR, bnd_addR, bnd_rb, bnd_rb] at h
  generalize (dtG m).nm = N at *
  generalize jn x y = J at *
  generalize jn (RB f m x) (RB f m y) = J' at *
  generalize bnd x = u at *
  generalize bnd y = v at *
  have : 2 * J' = 2 * (N * J) := by grind
  omega
theorem hg_val {n : Nat} {q : P3} {z w : Gi} (h : HG n q z w) (r : R4) : ((zG q).nm + (rG q).nm) * valG r z w = (z.nm + w.nm) * val4 r q := by
  rw [val_G]
  have e := h.e
  have h1 := val_scl r (rG q) z w
  have h2 := val_scl r w (zG q) (rG q)
  have h3 := val_scl r (zG q) z w
  have h4 := val_scl r z (zG q) (rG q)
  have x1 : valG r (rG q * z) (rG q * w) = valG r (w * zG q) (w * rG q) := by
    rw [show w * zG q = rG q * z by rw [← e]; grind, show w * rG q = rG q * w by grind]
  have x2 : valG r (zG q * z) (zG q * w) = valG r (z * zG q) (z * rG q) := by
    rw [show zG q * w = z * rG q by rw [e]; grind, show zG q * z = z * zG q by grind]
  rw [h1, h2] at x1
  rw [h3, h4] at x2
  rw [Int.add_mul, Int.add_mul]
  omega

/-- the round r is led to t -/
structure Lr (n : Nat) (f : Int) (m : G4) (r t : R4) : Prop where
  rd : Rd n t
  c : ∃ g h : Int, g ≠ 0 ∧ h ≠ 0 ∧ mulR h (RB f (Bk f m) r) = mulR g t
theorem mulR_mulR (a b : Int) (r : R4) : mulR a (mulR b r) = mulR (a * b) r := by unfold mulR; simp only [Int.mul_assoc]
theorem mulR_comm (a b : Int) (r : R4) : mulR a (mulR b r) = mulR b (mulR a r) := by rw [mulR_mulR, mulR_mulR, Int.mul_comm]
theorem rd_mulR {m n : Nat} {r r' : R4} (h : Rd m r) (h' : Rd n r') {g g' : Int} (g0 : g ≠ 0) (g0' : g' ≠ 0) (e : mulR g r = mulR g' r') : r = r' := by
  unfold mulR at e
  simp only [Prod.mk.injEq] at e
  exact rd_uniq h h' g0 g0' e.1 e.2.1 e.2.2.1 e.2.2.2
theorem Lr.uniq {l n : Nat} {f : Int} {m : G4} {r t t' : R4} (h : Lr l f m r t) (h' : Lr n f m r t') : t = t' := by
  obtain ⟨g, a, g0, a0, e⟩ := h.c
  obtain ⟨g', a', g0', a0', e'⟩ := h'.c
  refine rd_mulR h.rd h'.rd (g := a' * g) (g' := a * g') (Int.mul_ne_zero a0' g0) (Int.mul_ne_zero a0 g0') ?_
  rw [← mulR_mulR, ← e, mulR_comm, e', mulR_mulR]
theorem Lr.back {l n b p : Nat} {f : Int} {m m' : G4} {r t s : R4} (hm : Mq p f m) (hr : Rd b r) (hb : Fm l (Bk f m) m') (h : Lr n f m r t) {q : Nat} (h' : Lr q f m' t s) : s = r := by
  obtain ⟨c, c0, ec⟩ := hb.c
  obtain ⟨g, a, g0, a0, e⟩ := h.c
  obtain ⟨g', a', g0', a0', e'⟩ := h'.c
  have np := Gi.nm_pos c0
  have nd := Gi.nm_pos hm.dt
  have e1 : m = scl (fl f c) (Bk f m') := by rw [← bk_scl, ← ec, bk_bk hm.fl]
  have e2 := congrArg (RB f m) e
  rw [rb_mul, rb_mul, rb_back hm.fl] at e2
  have e3 : RB f m t = mulR c.nm (RB f (Bk f m') t) := by
    have := rb_scl f (fl f c) (Bk f m') t
    rw [← e1, fl_nm] at this
    exact this
  rw [e3] at e2
  refine rd_mulR h'.rd hr (g := g * c.nm * g') (g' := a' * a * (dtG m).nm) (Int.mul_ne_zero (Int.mul_ne_zero g0 (by omega)) g0') (Int.mul_ne_zero (Int.mul_ne_zero a0' a0) (by omega)) ?_
  rw [← mulR_mulR, ← e', mulR_comm, ← mulR_mulR g, ← e2, mulR_mulR, mulR_mulR, Int.mul_assoc]
theorem Lr.two {l n b p q : Nat} {f g : Int} {m1 m2 x : G4} {r s t : R4} (h1 : Mq p f m1) (h2 : Mq q g m2) (hx : Fm b (Pr f m1 m2) x) (hs : Lr l g m2 r s) (ht : Lr n f m1 s t) : Lr n ((f + g) % 2) x r t := by
  obtain ⟨c, c0, ec⟩ := hx.c
  obtain ⟨u, a, u0, a0, e⟩ := hs.c
  obtain ⟨u', a', u0', a0', e'⟩ := ht.c
  have np := Gi.nm_pos c0
  refine ⟨ht.rd, u * u', a * a' * c.nm, Int.mul_ne_zero u0 u0', Int.mul_ne_zero (Int.mul_ne_zero a0 a0') (by omega), ?_⟩
  have e1 : RB ((f + g) % 2) (Bk ((f + g) % 2) (Pr f m1 m2)) r = mulR c.nm (RB ((f + g) % 2) (Bk ((f + g) % 2) x) r) := by rw [ec, bk_scl, rb_scl, fl_nm]
  rw [← mulR_mulR, ← e1, bk_pr h1.fl h2.fl, ← rb_comp h1.fl h2.fl, Int.mul_comm a a', ← mulR_mulR, ← rb_mul, e, rb_mul, mulR_comm, e', mulR_mulR]
theorem ne_zero_of {a b c d : Int} (hb : b ≠ 0) (hd : d ≠ 0) (e : b * a = d * c) : a = 0 ↔ c = 0 := by
  constructor
  · rintro rfl
    rw [Int.mul_zero] at e
    exact (Int.mul_eq_zero.mp e.symm).resolve_left hd
  · rintro rfl
    rw [Int.mul_zero] at e
    exact (Int.mul_eq_zero.mp e).resolve_left hb
theorem hg_zero {n : Nat} {q : P3} {z w : Gi} (h : HG n q z w) (r : R4) : valG r z w = 0 ↔ val4 r q = 0 := by
  have s := (HG.self h.pt).nz
  have p1 : (zG q).nm + (rG q).nm ≠ 0 := by
    have := (zG q).nm_nn
    have := (rG q).nm_nn
    intro e
    exact s ⟨Gi.nm_zero (by omega), Gi.nm_zero (by omega)⟩
  have p2 : z.nm + w.nm ≠ 0 := by
    have := z.nm_nn
    have := w.nm_nn
    intro e
    exact h.nz ⟨Gi.nm_zero (by omega), Gi.nm_zero (by omega)⟩
  exact ne_zero_of p1 p2 (hg_val h r)
theorem fl_io {f : Int} (a : Int) : fl f ⟨a, 0⟩ = ⟨a, 0⟩ := by
  unfold fl; split
  · exact Gi.ext' rfl (by show -(0 : Int) = 0; rfl)
  · rfl
theorem val_10 (r : R4) : valG r ⟨1, 0⟩ ⟨0, 0⟩ = r.1 := by
  unfold valG be Gi.nm Gi.cj; simp only [Gi.mul_re, Gi.mul_im]; grind
/-- led to a line just if the place that goes to the far one lies on it -/
theorem Lr.line {l n b : Nat} {f : Int} {m m' : G4} {r t : R4} {q : P3} (hb : Fm l (Bk f m) m') (h : Lr n f m r t) (hq : Led b f m' (1, 0, 0) q) : t.1 = 0 ↔ val4 r q = 0 := by
  obtain ⟨c, c0, ec⟩ := hb.c
  obtain ⟨g, a, g0, a0, e⟩ := h.c
  have np := Gi.nm_pos c0
  rw [← hg_zero hq r]
  rw [ec, rb_scl, mulR_mulR] at e
  have e1 : valG (mulR (a * c.nm) (RB f m' r)) ⟨1, 0⟩ ⟨0, 0⟩ = valG (mulR g t) ⟨1, 0⟩ ⟨0, 0⟩ := by rw [e]
  rw [mulR_val, mulR_val, rb_val, val_10] at e1
  have e2 : fl f (zG (1, 0, 0)) = ⟨1, 0⟩ := fl_io 1
  have e3 : rG (1, 0, 0) = ⟨0, 0⟩ := rfl
  rw [fl_io, fl_io] at e1
  rw [e2, e3]
  exact ne_zero_of g0 (Int.mul_ne_zero a0 (by omega)) e1.symm
theorem Lr.on {l n b : Nat} {f : Int} {m : G4} {r t : R4} {p q : P3} (hm : Mq l f m) (h : Lr n f m r t) (hq : Led b f m p q) : val4 r p = 0 ↔ val4 t q = 0 := by
  obtain ⟨g, a, g0, a0, e⟩ := h.c
  have nd := Gi.nm_pos hm.dt
  rw [← hg_zero hq t]
  have e2 := congrArg (RB f m) e
  rw [rb_mul, rb_mul, rb_back hm.fl, mulR_mulR] at e2
  have e1 := congrArg (fun x => valG x (zG p) (rG p)) e2
  simp only [mulR_val, rb_val] at e1
  have e3 : fl f (rG p) = rG p := fl_io p.2.2
  rw [e3, ← val_G] at e1
  exact ne_zero_of (Int.mul_ne_zero a0 (by omega)) g0 e1
theorem Lr.bnd {n l : Nat} {f : Int} {m : G4} {r t : R4} (hm : Mq l f m) (h : Lr n f m r t) : ∃ g a : Int, g ≠ 0 ∧ a ≠ 0 ∧ mulR a (RB f (Bk f m) r) = mulR g t ∧ a * a * ((dtG m).nm * L2.G.bnd r) = g * g * L2.G.bnd t := by
  obtain ⟨g, a, g0, a0, e⟩ := h.c
  refine ⟨g, a, g0, a0, e, ?_⟩
  have e1 := congrArg L2.G.bnd e
  rw [bnd_mulR, bnd_mulR, bnd_rb] at e1
  have e2 : (dtG (Bk f m)).nm = (dtG m).nm := by unfold Bk; rw [dt_fl, fl_nm, dt_adj]
  rw [e2] at e1
  exact e1
theorem Lr.jn {n n' l : Nat} {f : Int} {m : G4} {r t r' t' : R4} (hm : Mq l f m) (h : Lr n f m r t) (h' : Lr n' f m r' t') : ∃ x y z w : Int, 0 < x ∧ 0 < y ∧ 0 < z ∧ 0 < w ∧ x * (L2.G.bnd r) = y * L2.G.bnd t ∧ z * (L2.G.bnd r') = w * L2.G.bnd t' ∧ (x * z) * (L2.G.jn r r' * L2.G.jn r r') = (y * w) * (L2.G.jn t t' * L2.G.jn t t') := by
  obtain ⟨g, a, g0, a0, e, e1⟩ := h.bnd hm
  obtain ⟨g', a', g0', a0', e', e1'⟩ := h'.bnd hm
  have nd := Gi.nm_pos hm.dt
  have e2 : (dtG (Bk f m)).nm = (dtG m).nm := by unfold Bk; rw [dt_fl, fl_nm, dt_adj]
  have e3 := jn_mulR a a' (RB f (Bk f m) r) (RB f (Bk f m) r')
  rw [e, e', jn_mulR, jn_rb, e2] at e3
  refine ⟨a * a * (dtG m).nm, g * g, a' * a' * (dtG m).nm, g' * g', Int.mul_pos (imul_self_pos a0) nd, imul_self_pos g0, Int.mul_pos (imul_self_pos a0') nd, imul_self_pos g0', ?_, ?_, ?_⟩
  · rw [← e1, Int.mul_assoc]
  · rw [← e1', Int.mul_assoc]
  · generalize (dtG m).nm = N at *
    generalize L2.G.jn r r' = J at *
    generalize L2.G.jn t t' = J' at *
    have e4 : (g * g' * J') * (g * g' * J') = (a * a' * (N * J)) * (a * a' * (N * J)) := by rw [e3]
    clear e e' e1 e1' e3
    grind

abbrev rD (r : R4) : D := .tup [.int r.1, .int r.2.1, .int r.2.2.1, .int r.2.2.2]
def bt (r : R4) : Gi := ⟨r.2.1, r.2.2.1⟩
def scG (c : Int) (a : Gi) : Gi := ⟨c * a.re, c * a.im⟩
theorem Cz.mulG {m n : Nat} {a b : Gi} (h : Cz m (a.re, a.im)) (q : Cz n (b.re, b.im)) : Cz (m + n + 1) ((a * b).re, (a * b).im) := h.mul q
theorem Cz.addG {m n : Nat} {a b : Gi} (h : Cz m (a.re, a.im)) (q : Cz n (b.re, b.im)) : Cz (m + n + 1) ((a + b).re, (a + b).im) := ((h.mono (Nat.le_add_right m n)).add (q.mono (Nat.le_add_left n m)))
theorem Cz.cjG {n : Nat} {a : Gi} (h : Cz n (a.re, a.im)) : Cz n (a.cj.re, a.cj.im) := h.conj
theorem Cz.scG {m n : Nat} {c : Int} {a : Gi} (hc : Sz m c) (h : Cz n (a.re, a.im)) : Cz (m + n) ((scG c a).re, (scG c a).im) := ⟨hc.mul h.1, hc.mul h.2⟩
theorem Cz.reG {n : Nat} {a : Gi} (h : Cz n (a.re, a.im)) : Sz n a.re := h.1
theorem Cz.imG {n : Nat} {a : Gi} (h : Cz n (a.re, a.im)) : Sz n a.im := h.2
theorem sz2x : Sz 2 2 := by unfold Sz; decide
theorem szm2x : Sz 2 (-2) := by unfold Sz; decide
local macro_rules | `(tactic| walk_at "gz") => `(tactic| (repeat' (first | assumption | exact sz2x | exact szm2x | apply Cz.mulG | apply Cz.addG | apply Cz.cjG | apply Cz.scG | apply Cz.reG | apply Cz.imG | apply Sz.mul | apply Sz.neg)))
local macro_rules | `(tactic| walk_at "mk") => `(tactic| (apply Sz.mulOk; (repeat' (first | assumption | exact sz2x | exact szm2x | apply Cz.reG | apply Cz.imG | apply Cz.mulG | apply Cz.addG | apply Cz.cjG | apply Cz.scG | apply Sz.mul | apply Sz.add | apply Sz.sub | apply Sz.neg)); all_goals omega))
theorem w_scaledG {T : Tk} {m n : Nat} {a : Gi} {c : Int} {k : KD} (ha : Cz n (a.re, a.im)) (hc : Sz m c) (hn : n ≤ 50000) (hm : m ≤ 50000) (h : k (gD (scG c a)) T) : sm_scaled [.val (gD a), .val (.int c)] T k := w_scaled (n := n + m) (ha.mono (Nat.le_add_right n m)) (hc.mono (Nat.le_add_left m n)) (by omega) h
theorem S4.two {n : Nat} {r : R4} (h : S4 n r) : S4 (n + 2) (mulR 2 r) := ⟨(sz2x.mul h.s1).mono (by omega), (sz2x.mul h.s2).mono (by omega), (sz2x.mul h.s3).mono (by omega), (sz2x.mul h.s4).mono (by omega)⟩
theorem Rd.lite {n : Nat} {r : R4} (h : Rd n r) (l : n ≤ 1900) : (rD r).lite := lite_rw h.toRw l
def mirR (x y : R4) : R4 := (bnd x * y.1 - 2 * jn x y * x.1, bnd x * y.2.1 - 2 * jn x y * x.2.1, bnd x * y.2.2.1 - 2 * jn x y * x.2.2.1, bnd x * y.2.2.2 - 2 * jn x y * x.2.2.2)
theorem lite_non' : D.non.lite := by simp only [D.lite]
def rowR (x y : R4) : R4 := (jn x y * x.1 - bnd x * y.1, jn x y * x.2.1 - bnd x * y.2.1, jn x y * x.2.2.1 - bnd x * y.2.2.1, jn x y * x.2.2.2 - bnd x * y.2.2.2)
/-- the place of a row that has it alone -/
def PlR (n : Nat) (q : P3) (R : R4) : Prop := (R.1 = 0 ∧ q = (1, 0, 0)) ∨ (R.1 ≠ 0 ∧ PlQ n q (-(R.2.1 : Rat) / (2 * (R.1 : Rat))) (-(R.2.2.1 : Rat) / (2 * (R.1 : Rat))))
theorem PlR.uniq {m n : Nat} {q q' : P3} {R : R4} (h : PlR m q R) (h' : PlR n q' R) : q = q' := by
  rcases h with ⟨a, b⟩ | ⟨a, b⟩ <;> rcases h' with ⟨c, d⟩ | ⟨c, d⟩
  · rw [b, d]
  · exact absurd a c
  · exact absurd c a
  · exact b.uniq d
theorem cast_ne {a : Int} (h : a ≠ 0) : (a : Rat) ≠ 0 := fun e => h (cast_inj (b := 0) e)
theorem PlR.scale {n : Nat} {q : P3} {R R' : R4} (h : PlR n q R) {c d : Int} (c0 : c ≠ 0) (d0 : d ≠ 0) (e1 : c * R.1 = d * R'.1) (e2 : c * R.2.1 = d * R'.2.1) (e3 : c * R.2.2.1 = d * R'.2.2.1) : PlR n q R' := by
  rcases h with ⟨a, b⟩ | ⟨a, b⟩
  · left
    rw [a, Int.mul_zero] at e1
    exact ⟨(Int.mul_eq_zero.mp e1.symm).resolve_left d0, b⟩
  · right
    have r0 : R'.1 ≠ 0 := fun z => by
      rw [z, Int.mul_zero] at e1
      exact (Int.mul_eq_zero.mp e1).elim c0 a
    refine ⟨r0, ?_⟩
    have k1 : (c : Rat) * (R.1 : Rat) = d * (R'.1 : Rat) := by rw [← Rat.intCast_mul, e1, Rat.intCast_mul]
    have k2 : (c : Rat) * (R.2.1 : Rat) = d * (R'.2.1 : Rat) := by rw [← Rat.intCast_mul, e2, Rat.intCast_mul]
    have k3 : (c : Rat) * (R.2.2.1 : Rat) = d * (R'.2.2.1 : Rat) := by rw [← Rat.intCast_mul, e3, Rat.intCast_mul]
    have z1 := cast_ne a
    have z2 := cast_ne r0
    have z3 := cast_ne c0
    have z4 := cast_ne d0
    have u : -(R.2.1 : Rat) / (2 * (R.1 : Rat)) = -(R'.2.1 : Rat) / (2 * (R'.1 : Rat)) := by
      generalize (R.1 : Rat) = a1 at *
      generalize (R.2.1 : Rat) = a2 at *
      generalize (R'.1 : Rat) = b1 at *
      generalize (R'.2.1 : Rat) = b2 at *
      generalize (c : Rat) = cc at *
      generalize (d : Rat) = dd at *
      grind
    have v : -(R.2.2.1 : Rat) / (2 * (R.1 : Rat)) = -(R'.2.2.1 : Rat) / (2 * (R'.1 : Rat)) := by
      generalize (R.1 : Rat) = a1 at *
      generalize (R.2.2.1 : Rat) = a2 at *
      generalize (R'.1 : Rat) = b1 at *
      generalize (R'.2.2.1 : Rat) = b2 at *
      generalize (c : Rat) = cc at *
      generalize (d : Rat) = dd at *
      grind
    rw [← u, ← v]
    exact b
def TPl (n : Nat) (x y : R4) (d : D) : Prop := ((x = y ∨ jn x y * jn x y ≠ bnd x * bnd y) ∧ d = .non) ∨ (x ≠ y ∧ jn x y * jn x y = bnd x * bnd y ∧ ∃ q, d = pD q ∧ PlR n q (rowR x y))
theorem TPl.uniq {m n : Nat} {x y : R4} {d d' : D} (h : TPl m x y d) (h' : TPl n x y d') : d = d' := by
  rcases h with ⟨a, b⟩ | ⟨a1, a2, q, b, c⟩ <;> rcases h' with ⟨a', b'⟩ | ⟨a1', a2', q', b', c'⟩
  · rw [b, b']
  · rcases a with a | a
    · exact absurd a a1'
    · exact absurd a2' a
  · rcases a' with a' | a'
    · exact absurd a' a1
    · exact absurd a2 a'
  · rw [b, b', c.uniq c']
theorem TPl.symm {n m : Nat} {x y : R4} {d : D} (rx : Rw m x) (ry : Rw m y) (h : TPl n x y d) : TPl n y x d := by
  rcases h with ⟨a, b⟩ | ⟨a1, a2, q, b, c⟩
  · left
    refine ⟨?_, b⟩
    rcases a with a | a
    · exact .inl a.symm
    · right
      rw [jn_comm y x, Int.mul_comm (bnd y)]
      exact a
  · right
    refine ⟨fun e => a1 e.symm, by rw [jn_comm y x, Int.mul_comm (bnd y)]; exact a2, q, b, ?_⟩
    have j0 : jn x y ≠ 0 := fun z => by
      rw [z] at a2
      have := Int.mul_pos rx.bend ry.bend
      omega
    have b0 : bnd x ≠ 0 := by have := rx.bend; omega
    have key : ∀ s t : Int, -jn x y * (jn x y * s - bnd x * t) = bnd x * (jn y x * t - bnd y * s) := fun s t => by
      rw [jn_comm y x]
      have : -jn x y * (jn x y * s - bnd x * t) = -(jn x y * jn x y) * s + jn x y * bnd x * t := by grind
      rw [this, a2]
      grind
    exact c.scale (c := -jn x y) (d := bnd x) (by omega) b0 (key _ _) (key _ _) (key _ _)
theorem TPl.lite {n : Nat} {x y : R4} {d : D} (h : TPl n x y d) (hn : n ≤ 1900) : d.lite := by
  rcases h with ⟨_, b⟩ | ⟨_, _, q, b, c⟩
  · rw [b]; exact lite_non'
  · rw [b]
    rcases c with ⟨_, e⟩ | ⟨_, e⟩
    · rw [e]; exact lite_pt (pt_far (n := 1) (by decide)) (by decide)
    · exact lite_pl e hn
theorem PlQ.cj {n : Nat} {q : P3} {u v : Rat} (h : PlQ n q u v) : PlQ n (q.1, 0 - q.2.1, q.2.2) u (-v) := by
  refine ⟨h.pos, ?_, h.s1, by simp only [Int.zero_sub]; exact h.s2.neg, h.s3, h.e1, ?_⟩
  · have := h.one
    have e : ∀ g a b c : Int, gcdL g [a, 0 - b, c] = gcdL g [a, b, c] := fun g a b c => by
      unfold gcdL gcdL gcdL gcdL
      have : iGcd (iGcd g a) (0 - b) = iGcd (iGcd g a) b := by
        show ((Nat.gcd _ _ : Nat) : Int) = ((Nat.gcd _ _ : Nat) : Int)
        rw [Int.zero_sub, Int.natAbs_neg]
      rw [this]
    rw [e]
    exact this
  · simp only
    push_cast
    rw [h.e2]
    generalize (q.2.2 : Rat) = R
    grind

/-! mirrors as maps -/
def MM (r : R4) : G4 := (⟨-r.2.1, -r.2.2.1⟩, ⟨-(2 * r.2.2.2), 0⟩, ⟨2 * r.1, 0⟩, ⟨r.2.1, -r.2.2.1⟩)
theorem mm_dt (r : R4) : dtG (MM r) = io (-bnd r) := by
  unfold dtG MM io bnd
  refine Gi.ext' ?_ ?_
  · simp only [Gi.mul_re, Gi.sub_re]; grind
  · simp only [Gi.mul_im, Gi.sub_im]; grind
theorem io_ne {a : Int} (h : a ≠ 0) : io a ≠ 0 := fun z => h (congrArg Gi.re z)
theorem mm_nz {n : Nat} {r : R4} (h : Rw n r) : dtG (MM r) ≠ 0 := by
  rw [mm_dt]
  exact io_ne (by have := h.bend; omega)
theorem g4_ext {x y : G4} (h1 : x.1.re = y.1.re) (h2 : x.1.im = y.1.im) (h3 : x.2.1.re = y.2.1.re) (h4 : x.2.1.im = y.2.1.im) (h5 : x.2.2.1.re = y.2.2.1.re) (h6 : x.2.2.1.im = y.2.2.1.im) (h7 : x.2.2.2.re = y.2.2.2.re) (h8 : x.2.2.2.im = y.2.2.2.im) : x = y := by
  obtain ⟨a, b, c, d⟩ := x
  obtain ⟨a', b', c', d'⟩ := y
  simp only at h1 h2 h3 h4 h5 h6 h7 h8
  rw [Gi.ext' h1 h2, Gi.ext' h3 h4, Gi.ext' h5 h6, Gi.ext' h7 h8]
theorem mm_sq (r : R4) : Pr 1 (MM r) (MM r) = scl (io (bnd r)) g1 := by
  obtain ⟨q, l, n, k⟩ := r
  refine g4_ext ?_ ?_ ?_ ?_ ?_ ?_ ?_ ?_
  all_goals
    simp only [Pr, mulm, flm, fl, MM, scl, io, bnd, g1, Gi.cj, Gi.mul_re, Gi.mul_im, Gi.add_re, Gi.add_im, Gi.one_re, Gi.one_im, Gi.zero_re, Gi.zero_im, if_true]
    grind
theorem mm_bk (r : R4) : Bk 1 (MM r) = scl (io (-1)) (MM r) := by
  obtain ⟨q, l, n, k⟩ := r
  refine g4_ext ?_ ?_ ?_ ?_ ?_ ?_ ?_ ?_
  all_goals
    simp only [Bk, adjm, flm, fl, MM, scl, io, Gi.cj, Gi.mul_re, Gi.mul_im, Gi.neg_re, Gi.neg_im, if_true]
    grind
theorem mm_rb (x y : R4) : RB 1 (MM x) y = mirR x y := by
  obtain ⟨q, l, n, k⟩ := x
  obtain ⟨q', l', n', k'⟩ := y
  unfold mirR RB flR RB0 MM be bnd jn Gi.nm Gi.cj
  simp only [Gi.mul_re, Gi.mul_im, if_true, Prod.mk.injEq]
  refine ⟨?_, ?_, ?_, ?_⟩
  all_goals grind
/-- the image of a row in a round -/
structure Lm (n : Nat) (x y t : R4) : Prop where
  rd : Rd n t
  c : ∃ g h : Int, g ≠ 0 ∧ h ≠ 0 ∧ mulR h (mirR x y) = mulR g t
theorem Lm.uniq {l n : Nat} {x y t t' : R4} (h : Lm l x y t) (h' : Lm n x y t') : t = t' := by
  obtain ⟨g, a, g0, a0, e⟩ := h.c
  obtain ⟨g', a', g0', a0', e'⟩ := h'.c
  refine rd_mulR h.rd h'.rd (g := a' * g) (g' := a * g') (Int.mul_ne_zero a0' g0) (Int.mul_ne_zero a0 g0') ?_
  rw [← mulR_mulR, ← e, mulR_comm, e', mulR_mulR]
theorem Lr.lm {l n : Nat} {x y t : R4} {m' : G4} (hm : Fm l (MM x) m') (h : Lr n 1 m' y t) : Lm n x y t := by
  obtain ⟨c, c0, e⟩ := hm.c
  obtain ⟨g, a, g0, a0, e1⟩ := h.c
  have np := Gi.nm_pos c0
  refine ⟨h.rd, c.nm * g, a, Int.mul_ne_zero (by omega) g0, a0, ?_⟩
  have e2 : mirR x y = mulR c.nm (RB 1 (Bk 1 m') y) := by
    have e3 : RB 1 (Bk 1 (MM x)) y = mirR x y := by
      rw [mm_bk, rb_scl, mm_rb]
      show mulR 1 _ = _
      unfold mulR; simp only [Int.one_mul]
    rw [← e3, e, bk_scl, rb_scl, fl_nm]
  rw [e2, mulR_comm, e1, mulR_mulR]
/-! a map is settled by three places -/
theorem quad3 {a b c z1 w1 z2 w2 z3 w3 : Gi} (d12 : z1 * w2 - z2 * w1 ≠ 0) (d13 : z1 * w3 - z3 * w1 ≠ 0) (d23 : z2 * w3 - z3 * w2 ≠ 0) (h1 : a * z1 * z1 + b * z1 * w1 + c * w1 * w1 = 0) (h2 : a * z2 * z2 + b * z2 * w2 + c * w2 * w2 = 0) (h3 : a * z3 * z3 + b * z3 * w3 + c * w3 * w3 = 0) : a = 0 ∧ b = 0 ∧ c = 0 := by
  have B0 : 2 * a * z1 * z2 + b * (z1 * w2 + z2 * w1) + 2 * c * w1 * w2 = 0 := by
    have k : (z1 * w3 - z3 * w1) * ((z2 * w3 - z3 * w2) * (2 * a * z1 * z2 + b * (z1 * w2 + z2 * w1) + 2 * c * w1 * w2)) = 0 := by
      have e : (z1 * w3 - z3 * w1) * ((z2 * w3 - z3 * w2) * (2 * a * z1 * z2 + b * (z1 * w2 + z2 * w1) + 2 * c * w1 * w2)) = (z2 * w3 - z3 * w2) * (z2 * w3 - z3 * w2) * (a * z1 * z1 + b * z1 * w1 + c * w1 * w1) + (z1 * w3 - z3 * w1) * (z1 * w3 - z3 * w1) * (a * z2 * z2 + b * z2 * w2 + c * w2 * w2) - (z1 * w2 - z2 * w1) * (z1 * w2 - z2 * w1) * (a * z3 * z3 + b * z3 * w3 + c * w3 * w3) := by
        clear h1 h2 h3 d12 d13 d23
        grind
      rw [e, h1, h2, h3]
      grind
    exact (Gi.mul_zero' ((Gi.mul_zero' k).resolve_left d13)).resolve_left d23
  have dd := Gi.mul_ne d12 d12
  refine ⟨?_, ?_, ?_⟩
  · refine (Gi.mul_zero' (a := (z1 * w2 - z2 * w1) * (z1 * w2 - z2 * w1)) ?_).resolve_left dd
    have e : (z1 * w2 - z2 * w1) * (z1 * w2 - z2 * w1) * a = w2 * w2 * (a * z1 * z1 + b * z1 * w1 + c * w1 * w1) + w1 * w1 * (a * z2 * z2 + b * z2 * w2 + c * w2 * w2) - w1 * w2 * (2 * a * z1 * z2 + b * (z1 * w2 + z2 * w1) + 2 * c * w1 * w2) := by
      clear h1 h2 h3 d12 d13 d23 B0 dd
      grind
    rw [e, h1, h2, B0]
    grind
  · refine (Gi.mul_zero' (a := (z1 * w2 - z2 * w1) * (z1 * w2 - z2 * w1)) ?_).resolve_left dd
    have e : (z1 * w2 - z2 * w1) * (z1 * w2 - z2 * w1) * b = -(2 * z2 * w2 * (a * z1 * z1 + b * z1 * w1 + c * w1 * w1)) - 2 * z1 * w1 * (a * z2 * z2 + b * z2 * w2 + c * w2 * w2) + (z1 * w2 + z2 * w1) * (2 * a * z1 * z2 + b * (z1 * w2 + z2 * w1) + 2 * c * w1 * w2) := by
      clear h1 h2 h3 d12 d13 d23 B0 dd
      grind
    rw [e, h1, h2, B0]
    grind
  · refine (Gi.mul_zero' (a := (z1 * w2 - z2 * w1) * (z1 * w2 - z2 * w1)) ?_).resolve_left dd
    have e : (z1 * w2 - z2 * w1) * (z1 * w2 - z2 * w1) * c = z2 * z2 * (a * z1 * z1 + b * z1 * w1 + c * w1 * w1) + z1 * z1 * (a * z2 * z2 + b * z2 * w2 + c * w2 * w2) - z1 * z2 * (2 * a * z1 * z2 + b * (z1 * w2 + z2 * w1) + 2 * c * w1 * w2) := by
      clear h1 h2 h3 d12 d13 d23 B0 dd
      grind
    rw [e, h1, h2, B0]
    grind
theorem fl_im {f : Int} {a : Int} : fl f (⟨a, 0⟩ : Gi) = ⟨a, 0⟩ := by
  unfold fl; split
  · exact Gi.ext' rfl (by show -(0 : Int) = 0; rfl)
  · rfl
theorem fl_inj' {f : Int} {a b : Gi} (h : fl f a = fl f b) : a = b := by
  unfold fl at h
  split at h
  · have := congrArg Gi.cj h; rw [Gi.cj_cj, Gi.cj_cj] at this; exact this
  · exact h
/-- unlike places are not along one another -/
theorem pt_cross {a b : Nat} {f : Int} {p q : P3} (hp : Pt a p) (hq : Pt b q) (ne : p ≠ q) : fl f (zG p) * rG q - fl f (zG q) * rG p ≠ 0 := fun e => by
  apply ne
  have e1 : fl f (zG p * rG q) = fl f (zG q * rG p) := by
    have r1 : fl f (rG q) = rG q := fl_im
    have r2 : fl f (rG p) = rG p := fl_im
    have m1 : ∀ a b : Gi, fl f (a * b) = fl f a * fl f b := fun a b => by
      unfold fl; split
      · exact Gi.cj_mul a b
      · rfl
    rw [m1, m1, r1, r2]
    grind
  have e2 := fl_inj' e1
  have h := HG.self hq
  have h2 := HG.self hp
  have s := h2.nz
  exact HG.uniq h2 (h.tr s (by rw [show zG q * rG p = zG p * rG q from e2.symm]))
theorem Led.three {l n a b c n1 n2 n3 l1 l2 l3 : Nat} {f : Int} {m m' : G4} {p q s t u v : P3} (hm : Mq l f m) (hm' : Mq n f m') (hp : Pt a p) (hq : Pt b q) (hs : Pt c s) (pq : p ≠ q) (ps : p ≠ s) (qs : q ≠ s)
    (h1 : Led n1 f m p t) (h1' : Led l1 f m' p t) (h2 : Led n2 f m q u) (h2' : Led l2 f m' q u) (h3 : Led n3 f m s v) (h3' : Led l3 f m' s v) : m = m' := by
  have c1 := HG.cross h1 h1'
  have c2 := HG.cross h2 h2'
  have c3 := HG.cross h3 h3'
  have d12 := pt_cross (f := f) hp hq pq
  have d13 := pt_cross (f := f) hp hs ps
  have d23 := pt_cross (f := f) hq hs qs
  have fm := hm.fm
  have fm' := hm'.fm
  have dt := hm.dt
  have dt' := hm'.dt
  clear h1 h1' h2 h2' h3 h3' hm hm'
  generalize fl f (zG p) = z1 at *
  generalize fl f (zG q) = z2 at *
  generalize fl f (zG s) = z3 at *
  generalize rG p = w1 at *
  generalize rG q = w2 at *
  generalize rG s = w3 at *
  obtain ⟨A, B, C, D⟩ := m
  obtain ⟨A', B', C', D'⟩ := m'
  unfold apz apw at c1 c2 c3
  unfold dtG at dt dt'
  simp only at c1 c2 c3 dt dt'
  obtain ⟨q1, q2, q3⟩ := quad3 (a := A * C' - A' * C) (b := A * D' + B * C' - A' * D - B' * C) (c := B * D' - B' * D) d12 d13 d23 (by clear c2 c3 d12 d13 d23 dt dt'; grind) (by clear c1 c3 d12 d13 d23 dt dt'; grind) (by clear c1 c2 d12 d13 d23 dt dt'; grind)
  clear c1 c2 c3 d12 d13 d23
  have x0 : D' * A - B' * C ≠ 0 := fun z => by
    have k1 : A' * D - C' * B = 0 := by grind
    have : (A' * D' - B' * C') * (A * D - B * C) = 0 := by
      have e : (A' * D' - B' * C') * (A * D - B * C) = (D' * A - B' * C) * (A' * D - C' * B) + (B * D' - B' * D) * (A * C' - A' * C) := by clear z k1 q1 q2 q3 dt dt'; grind
      rw [e, z, q3]
      grind
    exact (Gi.mul_ne dt' dt) this
  refine fm.along fm' dt' x0 ?_
  unfold L2.G.scl
  simp only [Prod.mk.injEq]
  refine ⟨?_, ?_, ?_, ?_⟩
  · clear x0 dt dt' fm fm'; grind
  · clear x0 dt dt' fm fm'; grind
  · clear x0 dt dt' fm fm'; grind
  · clear x0 dt dt' fm fm'; grind

abbrev pF : P3 := (1, 0, 0)
/-- m leads three places to three -/
structure L3 (f : Int) (m : G4) (p q s p' q' s' : P3) : Prop where
  a : ∃ n, Led n f m p p'
  b : ∃ n, Led n f m q q'
  c : ∃ n, Led n f m s s'
theorem L3.uniq {l n a b c : Nat} {f : Int} {m m' : G4} {p q s t u v : P3} (hm : Mq l f m) (hm' : Mq n f m') (hp : Pt a p) (hq : Pt b q) (hs : Pt c s) (pq : p ≠ q) (ps : p ≠ s) (qs : q ≠ s) (h : L3 f m p q s t u v) (h' : L3 f m' p q s t u v) : m = m' := by
  obtain ⟨_, a1⟩ := h.a
  obtain ⟨_, a2⟩ := h.b
  obtain ⟨_, a3⟩ := h.c
  obtain ⟨_, b1⟩ := h'.a
  obtain ⟨_, b2⟩ := h'.b
  obtain ⟨_, b3⟩ := h'.c
  exact Led.three hm hm' hp hq hs pq ps qs a1 b1 a2 b2 a3 b3
theorem nz_cz {n : Nat} {a : Gi} (h : Cz n (a.re, a.im)) : Nz (2 * n + 2) a := nz_of h.1 h.2
theorem mm_same {a b : Nat} {x y : R4} (hx : Rd a x) (hy : Rd b y) (p2 : (Pr 1 (MM x) (MM y)).2.1 = 0) (p3 : (Pr 1 (MM x) (MM y)).2.2.1 = 0) (p1 : (Pr 1 (MM x) (MM y)).1 = (Pr 1 (MM x) (MM y)).2.2.2) : x = y := by
  have a1 := congrArg Gi.re p2
  have a2 := congrArg Gi.im p2
  have a3 := congrArg Gi.re p3
  have a4 := congrArg Gi.im p3
  have a5 := congrArg Gi.re p1
  have a6 := congrArg Gi.im p1
  simp only [Pr, mulm, flm, fl, MM, Gi.cj, Gi.mul_re, Gi.mul_im, Gi.add_re, Gi.add_im, Gi.zero_re, Gi.zero_im, if_true] at a1 a2 a3 a4 a5 a6
  refine prop_same hx hy ?_ ?_ ?_ ?_ ?_ ?_
  · clear a1 a2 a4 a5 a6 p1 p2 p3 hx hy; grind
  · clear a1 a2 a3 a5 a6 p1 p2 p3 hx hy; grind
  · clear a1 a2 a3 a4 a6 p1 p2 p3 hx hy; grind
  · clear a1 a2 a3 a4 a5 p1 p2 p3 hx hy; grind
  · clear a2 a3 a4 a5 a6 p1 p2 p3 hx hy; grind
  · clear a1 a3 a4 a5 a6 p1 p2 p3 hx hy; grind
theorem n4_mm {l : Nat} {r : R4} (h : S4 l r) : N4 (2 * l + 10) (MM r) := by
  have z : Sz (l + 2) 0 := sz_0
  refine ⟨(nz_of (n := l + 2) (h.s2.neg.mono (by omega)) (h.s3.neg.mono (by omega))).mono (by omega), (nz_of (n := l + 2) ((sz2x.mul h.s4).neg.mono (by omega)) z).mono (by omega), (nz_of (n := l + 2) ((sz2x.mul h.s1).mono (by omega)) z).mono (by omega), (nz_of (n := l + 2) (h.s2.mono (by omega)) (h.s3.neg.mono (by omega))).mono (by omega)⟩
theorem mm_lst (r : R4) : D.lst [.tup [.int (-r.2.1), .int (-r.2.2.1)], .tup [.int (-(2 * r.2.2.2)), .int 0], .tup [.int (2 * r.1), .int 0], .tup [.int r.2.1, .int (-r.2.2.1)]] = .lst [gD (MM r).1, gD (MM r).2.1, gD (MM r).2.2.1, gD (MM r).2.2.2] := rfl
theorem w_mirror_of {T : Tk} {l : Nat} {r : R4} {k : KD} (hr : Rd l r) (hn : l ≤ 900) (h : ∀ m, Fm (2 * l + 10) (MM r) m → k (mD 1 m) T) : sm_mirror_of [.val (rD r)] T k := by
  have N := n4_mm hr.s4'
  rw [e_mirror_of, b_mirror_of]
  walk_at "wk"
  refine ⟨szm2x.mulOk hr.s4 (by decide) (by omega), sz2x.mulOk hr.s1 (by decide) (by omega), ?_⟩
  rw [mm_lst]
  exact w_form_of (N := MM r) rfl N.s1 N.s2 N.s3 N.s4 (by omega) (dt_fst (mm_nz hr.toRw)) h
theorem Fm.self {n : Nat} {N m : G4} (h : Fm n N m) : Fm n m m := ⟨h.mp, ⟨1, one_ne, (scl_one m).symm⟩, h.s1, h.s2, h.s3, h.s4⟩
theorem r4_dc (t y : R4) : (decide (t.1 = y.1) && (decide (t.2.1 = y.2.1) && (decide (t.2.2.1 = y.2.2.1) && decide (t.2.2.2 = y.2.2.2)))) = decide (t = y) := by
  obtain ⟨a, b, c, d⟩ := t
  obtain ⟨a', b', c', d'⟩ := y
  simp only [Prod.mk.injEq, Bool.decide_and]
theorem gi_dc (a b : Gi) : (decide (a.re = b.re) && decide (a.im = b.im)) = decide (a = b) := by
  obtain ⟨x, y⟩ := a
  obtain ⟨x', y'⟩ := b
  simp only [Gi.mk.injEq, Bool.decide_and]
abbrev F2 := Int × Int
/-- a fraction above 0 -/
structure Fr2 (n : Nat) (q : F2) : Prop where
  p1 : 0 < q.1
  p2 : 0 < q.2
  one : gcdL 0 [q.1, q.2] = 1
  s1 : Sz n q.1
  s2 : Sz n q.2
structure Pw (n : Nat) (q : F2) : Prop where
  p1 : q.1 ≠ 0
  p2 : 0 < q.2
  one : gcdL 0 [q.1, q.2] = 1
  s1 : Sz n q.1
  s2 : Sz n q.2
abbrev R2g := F2 × F2
structure Rg (n : Nat) (r : R2g) : Prop where
  a : Fr2 n r.1
  b : Fr2 n r.2
  lt : r.1.1 * r.2.2 < r.2.1 * r.1.2
/-- a near place -/
structure Nr (n : Nat) (p : P3) : Prop extends Pt n p where
  pos : 0 < p.2.2
theorem Nr.mono {m n : Nat} {p : P3} (h : Nr m p) (l : m ≤ n) : Nr n p := ⟨h.toPt.mono l, h.pos⟩
theorem Nr.nf {n : Nat} {p : P3} (h : Nr n p) : p ≠ pF := fun e => by
  have := h.pos
  rw [e] at this
  exact absurd this (by decide)
theorem Pt.nr {n : Nat} {p : P3} (h : Pt n p) (ne : p ≠ pF) : Nr n p := ⟨h, by
  have := h.nn
  have : p.2.2 ≠ 0 := fun e => ne (h.far e)
  omega⟩
theorem PlQ.nr {n : Nat} {q : P3} {u v : Rat} (h : PlQ n q u v) : Nr n q := ⟨h.pt, h.pos⟩
theorem Nr.r0 {n : Nat} {p : P3} (h : Nr n p) : rG p ≠ 0 := fun e => by
  have := h.pos
  have e := congrArg Gi.re e
  unfold rG at e
  simp only at e
  rw [e] at this
  exact absurd this (by decide)
theorem HG.near {n : Nat} {q : P3} {z w : Gi} (h : HG n q z w) (w0 : w ≠ 0) : Nr n q := h.pt.nr fun e => by
  have k := h.e
  rw [e] at k
  have z1 : zG pF = 1 := rfl
  have r1 : rG pF = 0 := rfl
  rw [z1, r1] at k
  exact w0 (by rw [show w = 1 * w by grind, k]; grind)
/-- a cell of an arm -/
inductive Ce where
  | carry (p : P3)
  | mirror (r : R4)
  | grow (p q : P3) (g : R2g)
  | turn (p : P3) (w : F2) (g : R2g)
/-- a spring: the digits left, the stirred number, the count -/
def TkS (T : Tk) : Prop := ∃ a b c, T = [.int a, .int b, .int c] ∧ 0 ≤ a ∧ 0 ≤ b ∧ b < 1099511627776
theorem TkS.noL {T : Tk} (h : TkS T) : D.noLL T := by
  obtain ⟨a, b, c, rfl, _⟩ := h
  simp only [noLL_cons, noLL_nil, noL_int, and_true]
theorem w_well_loop {F : En → Tk → Prop} {A B : Option SV} {T : Tk} : ∀ (ns : List Int) (s : Int) (c : Option SV), 0 ≤ s ∧ s < 1099511627776 → (∀ s' c', 0 ≤ s' ∧ s' < 1099511627776 → F [A, B, some (.val (.int s')), c', none, none] T) →
    forL (gN 3) (sAsg (dOp (oF fMod) (dBlt (oG fInt) (aCons (dOp (oF fAdd) (dOp (oF fAdd) (dOp (oF fMul) (dVar 2) (dC (.int 47917))) (dOp (oF fMod) (dBlt (oG fInt) (aCons (dVar 3) (aNil))) (dC (.int 2147483549)))) (dC (.int 31))) (aNil))) (dC (.int 2147483549))) (gN 2)) { no0 with nx := F } (ns.map D.int) [A, B, some (.val (.int s)), c, none, none] T
  | [], s, c, h0, h => h s c h0
  | n :: ns, s, c, h0, h => by
    rw [List.map_cons]
    walk_at "ev"
    exact ⟨lit_mul' (by decide), w_well_loop ns _ _ ⟨Int.emod_nonneg _ (by decide), by have := Int.emod_lt_of_pos (s * 47917 + n % 2147483549 + 31) (b := 2147483549) (by decide); omega⟩ h⟩
theorem w__law_well {ns : List Int} {i : Int} {k : KD} (hi : 0 ≤ i) (hi2 : i ≤ 1000) (h : ∀ T, TkS T → k (.lst T) []) : sm__law_well [.val (scrD ns), .val (.int i)] [] k := by
  rw [e__law_well, b__law_well, scrD]
  walk_at "ev"
  refine ⟨lit_mul (by decide), ?_, ?_⟩
  · have := List.length_take_le 9 (ns.map D.int); omega
  rw [← List.map_take]
  refine w_well_loop _ _ _ (by omega) fun s c hs => ?_
  have hk : ∀ o : Int, ∀ p : Int, 0 ≤ p → k (.lst [.int p, .int ((s * 30029 + o % 2147483549 * 6211 + 13) % 2147483549), .int 0]) [] := fun o p hp => h _ ⟨_, _, _, rfl, hp, Int.emod_nonneg _ (by decide), by have := Int.emod_lt_of_pos (s * 30029 + o % 2147483549 * 6211 + 13) (b := 2147483549) (by decide); omega⟩
  walk_at "ev"
  have hp : ∀ o : Int, 0 ≤ iAbs o := fun o => by unfold iAbs; split <;> omega
  have fin : ∀ o : Int, (if o < 0 then MulOk s 30029 ∧ MulOk (o % 2147483549) 6211 ∧ k (.lst [.int (iAbs o), .int ((s * 30029 + o % 2147483549 * 6211 + 13) % 2147483549), .int 0]) []
      else CPow 10 18 ∧ if 10 ^ Int.toNat 18 ≤ o then MulOk s 30029 ∧ MulOk (o % 2147483549) 6211 ∧ k (.lst [.int (iAbs o), .int ((s * 30029 + o % 2147483549 * 6211 + 13) % 2147483549), .int 0]) []
      else MulOk s 30029 ∧ MulOk (o % 2147483549) 6211 ∧ k (.lst [.int 0, .int ((s * 30029 + o % 2147483549 * 6211 + 13) % 2147483549), .int 0]) []) := by
    intro o
    have m1 : MulOk s 30029 := lit_mul' (by decide)
    have m2 : MulOk (o % 2147483549) 6211 := lit_mul' (by decide)
    have q0 := hp o
    generalize iAbs o = q at q0 ⊢
    split
    · exact ⟨m1, m2, hk o _ q0⟩
    refine ⟨by unfold CPow; decide, ?_⟩
    split
    · exact ⟨m1, m2, hk o _ q0⟩
    · exact ⟨m1, m2, hk o _ (Int.le_refl _)⟩
  split
  · rename_i hl
    obtain ⟨n, rfl⟩ := Int.eq_ofNat_of_zero_le hi
    rw [atI_nat', List.getElem?_map, List.getElem?_eq_getElem (by simpa using hl)]
    walk_at "ev"
    exact fin _
  · walk_at "ev"
    have f0 := fin 0
    rw [if_neg (by decide)] at f0
    exact f0
theorem w__law_dip {T : Tk} {m : Int} {k : KD} (hT : TkS T) (h0 : 0 < m) (h1 : m.natAbs < 2 ^ 64) (h : ∀ r T', 0 ≤ r → r < m → TkS T' → k (.int r) T') : sm__law_dip [.tank, .val (.int m)] T k := by
  obtain ⟨a, b, c, rfl, ha, hb, hb2⟩ := hT
  rw [e__law_dip, b__law_dip]
  walk_at "ev"
  split
  · exact ⟨lit_dm h0 h1, h _ _ (Int.emod_nonneg _ (by omega)) (Int.emod_lt_of_pos _ h0) ⟨_, _, _, rfl, Int.ediv_nonneg ha (by omega), hb, hb2⟩⟩
  · have mo : 0 ≤ b % 10037 := Int.emod_nonneg _ (by decide)
    have m1 : b % 10037 < 10037 := Int.emod_lt_of_pos _ (by decide)
    refine ⟨lit_mul' (by omega), lit_mul (by decide), lit_div (by decide) (by decide), h0, h _ _ (Int.emod_nonneg _ (by omega)) (Int.emod_lt_of_pos _ h0) ⟨_, _, _, rfl, ha, Int.emod_nonneg _ (by decide), ?_⟩⟩
    exact Int.lt_of_lt_of_le (Int.emod_lt_of_pos _ (by decide)) (by decide)
theorem w__law_of {T : Tk} {xs : List D} {k : KD} (hT : TkS T) (h0 : xs ≠ []) (h1 : xs.length < 1000000) (h : ∀ x T', x ∈ xs → TkS T' → k x T') : sm__law_of [.tank, .val (.tup xs)] T k := by
  rw [e__law_of, b__law_of]
  walk_at "ev"
  have hl : 0 < xs.length := List.length_pos_iff.mpr h0
  refine w__law_dip hT (by omega) (by omega) fun r T' h2 h3 hT' => ?_
  obtain ⟨n, rfl⟩ := Int.eq_ofNat_of_zero_le h2
  have hn : n < xs.length := by omega
  walk_at "ev"
  simp only [atI_nat', List.getElem?_eq_getElem hn, ixR_some]
  exact ⟨trivial, h _ _ (List.getElem_mem hn) hT'⟩
theorem w__law_whole {T : Tk} {w : Int} {k : KD} (hT : TkS T) (w0 : 0 ≤ w) (w1 : w ≤ 1000000000) (h : ∀ r T', -(w + 999) ≤ r → r ≤ w + 999 → (w ≤ 1000 → -w ≤ r ∧ r ≤ w) → TkS T' → k (.int r) T') : sm__law_whole [.tank, .val (.int w)] T k := by
  rw [e__law_whole, b__law_whole]
  walk_at "wk"
  refine iteB_of (fun e => ?_) (fun e => ?_)
  · walk_at "wk"
    refine ⟨lit_mul (by decide), ?_⟩
    refine w__law_dip hT (by omega) (by omega) fun r T' h2 h3 hT' => ?_
    walk_at "wk"
    exact h _ _ (by omega) (by omega) (fun _ => ⟨by omega, by omega⟩) hT'
  · have e : ¬ w ≤ 1000 := by simpa using e
    walk_at "wk"
    refine ⟨lit_div (by decide) (by decide), lit_mul (by decide), ?_⟩
    have d1 : 1000 * (w / 1000) + w % 1000 = w := Int.mul_ediv_add_emod w 1000
    have d2 : 0 ≤ w % 1000 := Int.emod_nonneg _ (by decide)
    generalize w / 1000 = q at *
    refine w__law_dip hT (by omega) (by omega) fun r T' h2 h3 hT' => ?_
    walk_at "wk"
    refine ⟨lit_div (by decide) (by decide), lit_mul (by decide), ?_⟩
    refine w__law_dip hT' (by decide) (by decide) fun r2 T2 h4 h5 hT2 => ?_
    walk_at "wk"
    refine h _ _ ?_ ?_ (fun x => absurd x e) hT2
    all_goals omega
theorem w__law_gcdI {T : Tk} {a b : Int} {k : KD} (h : k (.int (iGcd a b)) T) : sm__law_gcd [.val (.int a), .val (.int b)] T k := by
  rw [e__law_gcd, b__law_gcd]
  walk_at "wkn"
  unfold sWhile
  refine ⟨fun m ρ T' => T' = T ∧ ∃ l r : Int, 0 ≤ l ∧ 0 ≤ r ∧ m = r.toNat ∧ iGcd l r = iGcd a b ∧ ρ = [some (.val (.int a)), some (.val (.int b)), some (.val (.int l)), some (.val (.int r))], ⟨_, rfl, iAbs a, iAbs b, iAbs_nn a, iAbs_nn b, rfl, ?_, rfl⟩, ?_⟩
  · rw [iGcd_abs, iGcd_comm, iGcd_abs, iGcd_comm]
  rintro m ρ T' ⟨rfl, l, r, h1, h2, rfl, h4, rfl⟩
  walk_at "wk"
  refine iteB_of (fun e => ?_) (fun e => ?_)
  · have q : 0 < r := by simpa using e
    walk_at "wk"
    refine ⟨q, (l % r).toNat, ?_, r, l % r, h2, Int.emod_nonneg _ (by omega), rfl, ?_, rfl⟩
    · have := Int.emod_lt_of_pos l q
      omega
    · rw [← h4, iGcd_mod h1 q]
  · have q : ¬ 0 < r := by simpa using e
    have q : r = 0 := by omega
    subst q
    rw [← h4, iGcd_zero h1] at h
    walk_at "wk"
    exact h
theorem cut_loop {F : dEnds} {A B : Option SV} {T : Tk} : ∀ (ns : List Int) (g : Int) (c : Option SV), (∀ c', F.nx [A, some (.val (.int (gcdL g ns))), c'] T) →
    forL (gN 2) (sAsg (dCall 2 sm__law_gcd (aCons (dVar 1) (aCons (dVar 2) (aNil)))) (gN 1)) F (ns.map D.int) [A, some (.val (.int g)), c] T
  | [], g, c, h => by
    rw [List.map_nil]
    exact h c
  | n :: ns, g, c, h => by
    rw [List.map_cons, forL_c]
    walk_at "wkn"
    refine w__law_gcdI ?_
    walk_at "wkn"
    exact cut_loop (B := B) ns _ _ h
theorem w__law_cut {T : Tk} {ns : List Int} {k : KD} (hl : ns.length ≤ 1000000) {n : Int} (hn : n ∈ ns) (h0 : n ≠ 0) (hs : Sz 9000 n) (h : k (.tup ((lowL ns).map D.int)) T) : sm__law_cut [.val (.tup (ns.map D.int))] T k := by
  rw [e__law_cut, b__law_cut]
  walk_at "wkn"
  refine ⟨by rw [List.length_map]; exact hl, ?_⟩
  refine cut_loop (B := none) ns 0 _ fun c => ?_
  have hp := gcdL_pos hn h0
  have hd := sz_dvd (gcdL_dvd ns 0 n hn) h0 hs
  walk_at "wkn"
  refine ⟨by rw [List.length_map]; exact hl, ?_⟩
  refine lc_div (fun i => hd.divOk (Nat.le_refl _) hp) ns _ _ _ ?_
  walk_at "wkn"
  exact h
theorem w_cut3i {T : Tk} {n : Nat} {x y z : Int} {k : KD} (hz : 0 < z) (s1 : Sz n x) (s2 : Sz n y) (s3 : Sz n z) (hn : n ≤ 9000) (h : ∀ q : P3, Nr n q → HG n q ⟨x, y⟩ (io z) → k (pD q) T) : sm__law_cut [.val (.tup [.int x, .int y, .int z])] T k := by
  have z0 := rne' hz
  refine w__law_cut (ns := [x, y, z]) (by simp) (n := z) (by simp) (by omega) (s3.mono hn) ?_
  have hq := plq_low (u := (x : Rat) / (z : Rat)) (v := (y : Rat) / (z : Rat)) hz s1 s2 s3 (by generalize (z : Rat) = Z at *; grind) (by generalize (z : Rat) = Z at *; grind)
  refine h (x / gcdL 0 [x, y, z], y / gcdL 0 [x, y, z], z / gcdL 0 [x, y, z]) hq.nr ⟨hq.pt, ?_, fun ⟨_, e⟩ => by have := congrArg Gi.re e; unfold io at this; simp only [Gi.zero_re] at this; omega⟩
  obtain ⟨e1, e2, e3⟩ := plq_cast hq
  generalize (x / gcdL 0 [x, y, z], y / gcdL 0 [x, y, z], z / gcdL 0 [x, y, z]) = q at *
  have i1 : q.1 * z = q.2.2 * x := cast_inj (by push_cast; rw [e1]; generalize (z : Rat) = Z at *; grind)
  have i2 : q.2.1 * z = q.2.2 * y := cast_inj (by push_cast; rw [e2]; generalize (z : Rat) = Z at *; grind)
  unfold zG rG io
  refine Gi.ext' ?_ ?_
  · simp only [Gi.mul_re]; omega
  · simp only [Gi.mul_im]; omega
theorem w__law_rounds {T : Tk} {xs : List D} {k : KD} (h : ∀ r : Int, r = 2 ∨ r = 3 → k (.int r) T) : sm__law_rounds [.val (.scr xs)] T k := by
  rw [e__law_rounds, b__law_rounds]
  walk_at "ev"
  refine h _ ?_
  unfold iMax iMin
  split <;> split at * <;> omega

theorem sz_le {n : Nat} {b a : Int} (h1 : -b ≤ a) (h2 : a ≤ b) (h : b.toNat < 2 ^ n) : Sz n a := by
  unfold Sz
  omega
theorem w__law_timesG {T : Tk} {m n : Nat} {a b : Gi} {k : KD} (ha : Cz m (a.re, a.im)) (hb : Cz n (b.re, b.im)) (hm : m ≤ 100000) (hn : n ≤ 100000) (h : k (gD (a * b)) T) : sm__law_times [.val (gD a), .val (gD b)] T k := by
  rw [e__law_times, b__law_times]
  walk_at "wk"
  have hm' : m ≤ 400000 := by omega
  have hn' : n ≤ 400000 := by omega
  exact ⟨ha.1.mulOk hb.1 hm' hn', ha.2.mulOk hb.2 hm' hn', ha.1.mulOk hb.2 hm' hn', ha.2.mulOk hb.1 hm' hn', h⟩
theorem w__law_plusG {T : Tk} {a b : Gi} {k : KD} (h : k (gD (a + b)) T) : sm__law_plus [.val (gD a), .val (gD b)] T k := by
  rw [e__law_plus, b__law_plus]
  walk_at "wk"
  exact h
theorem w__law_minusU {T : Tk} {a : Gi} {k : KD} (h : k (gD (-a)) T) : sm__law_minus [.val (gD a)] T k := by
  rw [e__law_minus, b__law_minus]
  walk_at "wk"
  rw [Int.zero_sub, Int.zero_sub]
  exact h
theorem w__law_conjG {T : Tk} {a : Gi} {k : KD} (h : k (gD a.cj) T) : sm__law_conj [.val (gD a)] T k := by
  rw [e__law_conj, b__law_conj]
  walk_at "wk"
  rw [Int.zero_sub]
  exact h
theorem w__law_normG {T : Tk} {n : Nat} {a : Gi} {k : KD} (ha : Cz n (a.re, a.im)) (hn : n ≤ 100000) (h : k (.int a.nm) T) : sm__law_norm [.val (gD a)] T k := by
  rw [e__law_norm, b__law_norm]
  walk_at "wk"
  exact ⟨ha.1.mulOk ha.1 (by omega) (by omega), ha.2.mulOk ha.2 (by omega) (by omega), h⟩
theorem w__law_scaledG {T : Tk} {m n : Nat} {c : Int} {a : Gi} {k : KD} (hc : Sz m c) (ha : Cz n (a.re, a.im)) (hm : m ≤ 100000) (hn : n ≤ 100000) (h : k (gD (scG c a)) T) : sm__law_scaled [.val (.int c), .val (gD a)] T k := by
  rw [e__law_scaled, b__law_scaled]
  walk_at "wk"
  exact ⟨hc.mulOk ha.1 (by omega) (by omega), hc.mulOk ha.2 (by omega) (by omega), h⟩
theorem w__law_overG {T : Tk} {n : Nat} {x g : Gi} {k : KD} (s : Nz n (x * g)) (sg : Nz n g) (g0 : g ≠ 0) (hn : n ≤ 2000) (h : k (gD x) T) : sm__law_over [.val (gD (x * g)), .val (gD g)] T k := by
  rw [e__law_over, b__law_over]
  walk_at "wk"
  have p := Gi.nm_pos g0
  refine w__law_normG sg.cz (by omega) ?_
  walk_at "wk"
  refine w__law_conjG ?_
  walk_at "wk"
  refine w__law_timesG s.cz sg.cj.cz (by omega) (by omega) ?_
  have e1 : (x * g * g.cj).re = x.re * g.nm := by simp only [Gi.mul_re, Gi.mul_im, Gi.cj, Gi.nm]; grind
  have e2 : (x * g * g.cj).im = x.im * g.nm := by simp only [Gi.mul_re, Gi.mul_im, Gi.cj, Gi.nm]; grind
  have e : gD (x * g * g.cj) = .tup [.int (x.re * g.nm), .int (x.im * g.nm)] := by show D.tup [.int (x * g * g.cj).re, .int (x * g * g.cj).im] = _; rw [e1, e2]
  rw [e]
  walk_at "wk"
  have sn : Sz 9000 g.nm := (sz_nm sg).mono (by omega)
  rw [Int.mul_ediv_cancel _ (by omega), Int.mul_ediv_cancel _ (by omega)]
  exact ⟨sn.divOk (by decide) p, sn.divOk (by decide) p, h⟩
theorem w__law_deepG {T : Tk} {n : Nat} {a b : Gi} {k : KD} (ha : Nz n a) (hb : Nz n b) (hn : n ≤ 2000) (h : ∀ g, G2 g a b → Nz n g → k (gD g) T) : sm__law_deep [.val (gD a), .val (gD b)] T k := by
  rw [e__law_deep, b__law_deep]
  walk_at "wkn"
  unfold sWhile
  refine ⟨fun m ρ T' => T' = T ∧ ∃ (c d : Gi) (x y z : Option SV), ρ = [some (.val (gD c)), some (.val (gD d)), x, y, z] ∧ m = d.nm.toNat ∧ Nz n c ∧ Nz n d ∧ ∀ g, G2 g c d → G2 g a b, ⟨_, rfl, a, b, none, none, none, rfl, rfl, ha, hb, fun _ q => q⟩, ?_⟩
  rintro m ρ T' ⟨rfl, c, d, x, y, z, rfl, rfl, hc, hd, tr⟩
  walk_at "wkn"
  rw [dec_gi]
  by_cases d0 : d = 0
  · rw [if_neg (by rw [decide_eq_true d0]; decide)]
    subst d0
    walk_at "wkn"
    exact h c (tr c (G2.zero c)) hc
  have p := Gi.nm_pos d0
  rw [if_pos (decide_eq_false d0)]
  walk_at "wkn"
  refine w__law_normG hd.cz (by omega) ?_
  walk_at "wkn"
  refine w__law_conjG ?_
  walk_at "wkn"
  refine w__law_timesG hc.cz hd.cj.cz (by omega) (by omega) ?_
  walk_at "wkn"
  have hs : Sz 8000 d.nm := (sz_nm hd).mono (by omega)
  have dv := ((show Sz 2 2 by unfold Sz; decide).mul hs)
  refine ⟨lit_mul (by decide), lit_mul (by decide), dv.divOk (by decide) (by omega), lit_mul (by decide), lit_mul (by decide), dv.divOk (by decide) (by omega), ?_⟩
  have lt := nearG_nm (a := c) d0
  have nn := (c - nearG c d * d).nm_nn
  have h2 : Nz n (c - nearG c d * d) := by
    unfold Nz at hd ⊢
    omega
  have nq : Nz (n + 2) (nearG c d) := by
    refine Nz.dvd d0 ?_
    have e : d * nearG c d = c + -(c - nearG c d * d) := by grind
    rw [e]
    exact hc.add h2.neg
  refine w__law_timesG (a := nearG c d) (b := d) nq.cz hd.cz (by omega) (by omega) ?_
  walk_at "wkn"
  refine w__law_minusU ?_
  walk_at "wkn"
  refine w__law_plusG ?_
  rw [show c + -(nearG c d * d) = c - nearG c d * d by grind]
  walk_at "wkn"
  exact ⟨(c - nearG c d * d).nm.toNat, by omega, d, c - nearG c d * d, _, _, _, rfl, rfl, hd, h2, fun g hg => tr g (G2.step hg)⟩
theorem w__law_quarterG {T : Tk} {f : Gi} {k : KD} {n : Nat} (sf : Nz n f) (hn : n ≤ 90000) (f0 : f ≠ 0) (h : ∀ u, u.nm = 1 → Qf (u * f) → k (gD (u * f)) T) : sm__law_quarter [.val (gD f)] T k := by
  rw [e__law_quarter, b__law_quarter]
  have h' : ∀ u x y, Gi.mk x y = f * u → u.nm = 1 → Qf (Gi.mk x y) → k (.tup [.int x, .int y]) T := fun u x y e hu hq => by
    have e' : f * u = u * f := by grind
    have := h u hu (by rw [← e', ← e]; exact hq)
    rw [← e', ← e] at this
    exact this
  have qf : ∀ x y : Int, (decide (0 < x) && decide (0 ≤ y)) = true → Qf (Gi.mk x y) := fun x y e => by
    rw [Bool.and_eq_true, decide_eq_true_eq, decide_eq_true_eq] at e
    exact e
  have nq : ∀ x y : Int, (decide (0 < x) && decide (0 ≤ y)) = false → ¬(0 < x ∧ 0 ≤ y) := fun g g' e ⟨x, y⟩ => by
    rw [decide_eq_true x, decide_eq_true y] at e
    exact absurd e (by decide)
  walk_at "wki"
  refine iteB_of (fun e => ?_) (fun e1 => ?_)
  · walk_at "wki"
    exact h' 1 f.re f.im (by show f = f * 1; grind) rfl (qf _ _ e)
  walk_at "wki"
  refine iteB_of (fun e => ?_) (fun e2 => ?_)
  · walk_at "wki"
    refine h' ⟨0, 1⟩ _ _ ?_ rfl (qf _ _ e)
    exact Gi.ext' (by simp only [Gi.mul_re]; omega) (by simp only [Gi.mul_im]; omega)
  walk_at "wki"
  refine iteB_of (fun e => ?_) (fun e3 => ?_)
  · walk_at "wki"
    refine h' ⟨-1, 0⟩ _ _ ?_ rfl (qf _ _ e)
    exact Gi.ext' (by simp only [Gi.mul_re]; omega) (by simp only [Gi.mul_im]; omega)
  walk_at "wki"
  refine iteB_of (fun e => ?_) (fun e4 => ?_)
  · walk_at "wki"
    refine h' ⟨0, -1⟩ _ _ ?_ rfl (qf _ _ e)
    exact Gi.ext' (by simp only [Gi.mul_re]; omega) (by simp only [Gi.mul_im]; omega)
  exfalso
  have n1 := nq _ _ e1
  have n2 := nq _ _ e2
  have n3 := nq _ _ e3
  have n4 := nq _ _ e4
  have f0' : ¬(f.re = 0 ∧ f.im = 0) := fun z => f0 (Gi.eq0.mp z)
  omega
theorem lc_nzC {A0 A1 A2 A4 A5 A6 A7 A8 A9 A10 : Option SV} {K : List D → Tk → Prop} : ∀ (xs : List Gi) (c : Option SV) (acc : List D) (T : Tk), K (acc ++ (nzG xs).map gD) T →
    lcD [A0, A1, A2, c, A4, A5, A6, A7, A8, A9, A10] (cN 3) (dTst (dOp (oF fNe) (dVar 3) (dTup (aCons (dC (.int 0)) (aCons (dC (.int 0)) (aNil)))))) (dVar 3) K (xs.map gD) acc T
  | [], c, acc, T, h => by
    rw [nzG, List.map_nil, List.append_nil] at h
    exact h
  | x :: xs, c, acc, T, h => by
    show lcK _ _ _ _ _ (D.tup [.int x.re, .int x.im] :: xs.map gD) _ _
    walk_at "wk"
    by_cases q : x = 0
    · refine iteB_p (by rw [q]; rfl) ?_
      rw [nzG, if_pos q] at h
      exact lc_nzC xs _ _ _ h
    · refine iteB_n (by
        have : ¬(x.re = 0 ∧ x.im = 0) := fun z => q (Gi.eq0.mp z)
        simpa using this) ?_
      rw [nzG, if_neg q, List.map_cons] at h
      walk_at "wk"
      refine lc_nzC xs _ _ _ ?_
      rw [List.append_assoc]
      exact h
theorem w__law_chartG {T : Tk} {n : Nat} {f : Int} {N : G4} {k : KD} (s1 : Nz n N.1) (s2 : Nz n N.2.1) (s3 : Nz n N.2.2.1) (s4 : Nz n N.2.2.2) (hn : n ≤ 1999) (nz : fst4 N ≠ 0) (h : ∀ m, Fm n N m → k (mD f m) T) : sm__law_chart [.val (.int f), .val (.lst [gD N.1, gD N.2.1, gD N.2.2.1, gD N.2.2.2])] T k := by
  have z0 : Nz n 0 := by unfold Nz; rw [Gi.nm_of_zero]; exact Int.pow_pos (by decide)
  rw [e__law_chart, b__law_chart]
  walk_at "wk"
  refine w__law_deepG (a := 0) z0 s1 (by omega) fun g1 h1 n1 => ?_
  walk_at "wk"
  refine w__law_deepG n1 s2 (by omega) fun g2 h2 n2 => ?_
  walk_at "wk"
  refine w__law_deepG n2 s3 (by omega) fun g3 h3 n3 => ?_
  walk_at "wk"
  refine w__law_deepG n3 s4 (by omega) fun g ge ng => ?_
  have gd : GD g (N.1, N.2.1, N.2.2.1, N.2.2.2) := gd_of h1 h2 h3 ge
  clear h1 h2 h3 ge n1 n2 n3
  obtain ⟨N1, N2, N3, N4⟩ := N
  obtain ⟨⟨x1, q1⟩, ⟨x2, q2⟩, ⟨x3, q3⟩, ⟨x4, q4⟩, u, v, w, t, es⟩ := gd
  simp only at q1 q2 q3 q4
  subst q1 q2 q3 q4
  obtain ⟨g0, f0⟩ := fst4_zero (x := (x1, x2, x3, x4)) nz
  have y1 := Nz.dvd (a := x1) g0 (by rw [show g * x1 = x1 * g by grind]; exact s1)
  have y2 := Nz.dvd (a := x2) g0 (by rw [show g * x2 = x2 * g by grind]; exact s2)
  have y3 := Nz.dvd (a := x3) g0 (by rw [show g * x3 = x3 * g by grind]; exact s3)
  have y4 := Nz.dvd (a := x4) g0 (by rw [show g * x4 = x4 * g by grind]; exact s4)
  have nf := fst4_nz (x := (x1, x2, x3, x4)) y1 y2 y3 y4
  obtain ⟨r, er⟩ := nzG_head f0
  simp only at er
  walk_at "wk"
  refine w__law_overG s1 ng g0 (by omega) ?_
  walk_at "wk"
  refine w__law_overG s2 ng g0 (by omega) ?_
  walk_at "wk"
  refine w__law_overG s3 ng g0 (by omega) ?_
  walk_at "wk"
  refine w__law_overG s4 ng g0 (by omega) ?_
  walk_at "wkn"
  refine lc_nzC [x1, x2, x3, x4] _ _ _ ?_
  rw [er]
  walk_at "wk"
  refine w__law_quarterG nf (by omega) f0 fun U un qf => ?_
  have nU : Nz 1 U := by unfold Nz; rw [un]; decide
  have nUf : Nz (1 + n) (U * fst4 (x1, x2, x3, x4)) := nU.mul nf
  walk_at "wk"
  refine w__law_overG (x := U) (g := fst4 (x1, x2, x3, x4)) (n := 1 + n) nUf (nf.mono (by omega)) f0 (by omega) ?_
  have fin := h _ (fm_of' (x := (x1, x2, x3, x4)) (U := U) un (by rw [show fst4 (x1, x2, x3, x4) * U = U * fst4 (x1, x2, x3, x4) by grind]; exact qf) g0 ⟨u, v, w, t, es⟩ s1 s2 s3 s4)
  simp only [show ∀ x : Gi, x * U = U * x from fun x => by grind] at fin
  walk_at "wk"
  refine w__law_timesG nU.cz y1.cz (by omega) (by omega) ?_
  walk_at "wk"
  refine w__law_timesG nU.cz y2.cz (by omega) (by omega) ?_
  walk_at "wk"
  refine w__law_timesG nU.cz y3.cz (by omega) (by omega) ?_
  walk_at "wk"
  refine w__law_timesG nU.cz y4.cz (by omega) (by omega) ?_
  walk_at "wk"
  exact fin
theorem w__law_spotG {T : Tk} {n : Nat} {z w : Gi} {k : KD} (hz : Cz n (z.re, z.im)) (hw : Cz n (w.re, w.im)) (hn : n ≤ 4000) (nz : ¬(z = 0 ∧ w = 0)) (h : ∀ q : P3, HG (2 * n + 1) q z w → k (pD q) T) : sm__law_spot [.val (gD z), .val (gD w)] T k := by
  rw [e__law_spot, b__law_spot]
  walk_at "wk"
  rw [dec_gi]
  have nz' : ¬(((z.re = 0 ∧ z.im = 0) ∧ (w.re = 0 ∧ w.im = 0))) := fun ⟨a, b⟩ => nz ⟨Gi.eq0.mp a, Gi.eq0.mp b⟩
  by_cases w0 : w = 0
  · refine iteB_p (by simp [w0]) ?_
    walk_at "wk"
    subst w0
    exact h (1, 0, 0) (HP.hg ⟨pt_far (by omega), by simp [Gi.zero_re, Gi.zero_im], by simp [Gi.zero_re, Gi.zero_im], nz'⟩)
  · refine iteB_n (by simp [w0]) ?_
    walk_at "wk"
    refine w__law_conjG ?_
    walk_at "wk"
    refine w__law_timesG (b := w.cj) hz hw.conj (by omega) (by omega) ?_
    have e : gD (z * w.cj) = .tup [.int (z * w.cj).re, .int (z * w.cj).im] := rfl
    rw [e]
    walk_at "wk"
    refine w__law_normG hw (by omega) ?_
    walk_at "wk"
    have np := Gi.nm_pos w0
    have sp : Sz (n + n + 1) (z * w.cj).re ∧ Sz (n + n + 1) (z * w.cj).im := hz.mul hw.conj
    have sn : Sz (n + n + 1) w.nm := hw.nrm
    refine w_cut3i (n := 2 * n + 1) np (sp.1.mono (by omega)) (sp.2.mono (by omega)) (sn.mono (by omega)) (by omega) fun q hq hg => h q (hg.tr nz ?_)
    show z * w.cj * w = z * io w.nm
    rw [nm_io]
    grind
theorem w__law_mirrorR {T : Tk} {l : Nat} {r : R4} {k : KD} (b0 : bnd r ≠ 0) (hr : S4 l r) (hn : l ≤ 900) (h : ∀ m, Fm (2 * l + 10) (MM r) m → k (mD 1 m) T) : sm__law_mirror [.val (rD r)] T k := by
  have N := n4_mm hr
  rw [e__law_mirror, b__law_mirror]
  walk_at "wk"
  refine ⟨sz2x.mulOk hr.s4 (by decide) (by omega), sz2x.mulOk hr.s1 (by decide) (by omega), ?_⟩
  simp only [Int.zero_sub]
  rw [mm_lst]
  exact w__law_chartG (N := MM r) N.s1 N.s2 N.s3 N.s4 (by omega) (dt_fst (by rw [mm_dt]; exact io_ne (by omega))) h

/-- a row whose bend is not 0 -/
structure Mr (n : Nat) (r : R4) : Prop where
  one : gcdL 0 [r.1, r.2.1, r.2.2.1, r.2.2.2] = 1
  b0 : bnd r ≠ 0
  up : 0 < fnz [r.1, r.2.1, r.2.2.1, r.2.2.2]
  s : S4 n r
theorem Mr.rd {n : Nat} {r : R4} (h : Mr n r) (p : 0 < bnd r) : Rd n r := ⟨⟨h.one, p, h.s.s1, h.s.s2, h.s.s3, h.s.s4⟩, h.up⟩
theorem Rd.mr {n : Nat} {r : R4} (h : Rd n r) : Mr n r := ⟨h.one, by have := h.bend; omega, h.up, ⟨h.s1, h.s2, h.s3, h.s4⟩⟩
theorem S4.mono {m n : Nat} {r : R4} (h : S4 m r) (l : m ≤ n) : S4 n r := ⟨h.s1.mono l, h.s2.mono l, h.s3.mono l, h.s4.mono l⟩
theorem Mr.mono {m n : Nat} {r : R4} (h : Mr m r) (l : m ≤ n) : Mr n r := ⟨h.one, h.b0, h.up, h.s.mono l⟩
theorem mr_nz {a b c d : Int} (h0 : bnd (a, b, c, d) ≠ 0) : ∃ x ∈ [a, b, c, d], x ≠ 0 := by
  by_cases hb : b = 0
  · by_cases hc : c = 0
    · by_cases ha : a = 0
      · exfalso; subst ha hb hc; unfold bnd at h0; simp at h0
      · exact ⟨a, by simp, ha⟩
    · exact ⟨c, by simp, hc⟩
  · exact ⟨b, by simp, hb⟩
theorem mr_form {P : R4 → Prop} {n : Nat} {a b c d : Int} (h0 : bnd (a, b, c, d) ≠ 0) (s1 : Sz n a) (s2 : Sz n b) (s3 : Sz n c) (s4 : Sz n d) (h : ∀ (r : R4) (g : Int), g ≠ 0 → (a, b, c, d) = mulR g r → Mr n r → P r) :
    (0 < fnz (lowL [a, b, c, d]) → P (a / gcdL 0 [a, b, c, d], b / gcdL 0 [a, b, c, d], c / gcdL 0 [a, b, c, d], d / gcdL 0 [a, b, c, d])) ∧
    (¬ 0 < fnz (lowL [a, b, c, d]) → P (0 - a / gcdL 0 [a, b, c, d], 0 - b / gcdL 0 [a, b, c, d], 0 - c / gcdL 0 [a, b, c, d], 0 - d / gcdL 0 [a, b, c, d])) ∧
    fnz (lowL [a, b, c, d]) ≠ 0 ∧ ∃ x ∈ [a, b, c, d], x ≠ 0 ∧ Sz n x := by
  obtain ⟨x, hx, x0⟩ := mr_nz h0
  have hx' := hx
  have sx : Sz n x := by
    simp only [List.mem_cons, List.not_mem_nil, or_false] at hx
    rcases hx with rfl | rfl | rfl | rfl <;> assumption
  have hp := gcdL_pos hx x0
  have hb := lowL_back (ns := [a, b, c, d])
  have ho := lowL_gcd hp
  unfold lowL at hb ho ⊢
  generalize gcdL 0 [a, b, c, d] = g at *
  have t1 := s1.ediv (j := g)
  have t2 := s2.ediv (j := g)
  have t3 := s3.ediv (j := g)
  have t4 := s4.ediv (j := g)
  simp only [List.map_cons, List.map_nil, List.cons.injEq, and_true] at hb ho ⊢
  obtain ⟨b1, b2, b3, b4⟩ := hb
  generalize a / g = x1 at *
  generalize b / g = x2 at *
  generalize c / g = x3 at *
  generalize d / g = x4 at *
  subst b1 b2 b3 b4
  have e : bnd (g * x1, g * x2, g * x3, g * x4) = g * g * bnd (x1, x2, x3, x4) := by unfold bnd; simp only; grind
  have b0 : bnd (x1, x2, x3, x4) ≠ 0 := fun z => h0 (by rw [e, z, Int.mul_zero])
  have fz : fnz [x1, x2, x3, x4] ≠ 0 := fun z => by
    have z := fnz_zero _ z
    apply b0
    unfold bnd
    simp only
    rw [z x1 (by simp), z x2 (by simp), z x3 (by simp)]
    simp
  refine ⟨fun q => h _ g (by omega) rfl ⟨ho, b0, q, ⟨t1, t2, t3, t4⟩⟩, fun q => h _ (-g) (by omega) ?_ ⟨?_, ?_, ?_, ?_⟩, fz, x, hx', x0, sx⟩
  · unfold mulR
    simp only [Int.zero_sub, Int.neg_mul_neg]
  · have := gcdL_neg [x1, x2, x3, x4] 0
    rw [ho] at this
    exact this
  · have e2 : bnd (0 - x1, 0 - x2, 0 - x3, 0 - x4) = bnd (x1, x2, x3, x4) := by unfold bnd; simp only; grind
    rw [e2]
    exact b0
  · have := fnz_neg [x1, x2, x3, x4]
    show 0 < fnz ([x1, x2, x3, x4].map fun x => 0 - x)
    omega
  · simp only [Int.zero_sub]
    exact ⟨t1.neg, t2.neg, t3.neg, t4.neg⟩
theorem lc_filt2 {A B : Option SV} {K : List D → Tk → Prop} : ∀ (ns : List Int) (c : Option SV) (acc : List D) (T : Tk), K (acc ++ (ns.filter fun x => !decide (x = 0)).map D.int) T →
    lcD [A, B, c] (cN 2) (dTst (dOp (oF fNe) (dVar 2) (dC (.int 0)))) (dVar 2) K (ns.map D.int) acc T
  | [], c, acc, T, h => by
    rw [List.filter_nil, List.map_nil, List.append_nil] at h
    exact h
  | n :: ns, c, acc, T, h => by
    rw [List.map_cons]
    walk_at "ev"
    by_cases q : n = 0
    · rw [if_neg (not_not_intro q)]
      rw [List.filter_cons_of_neg (by simp [q])] at h
      exact lc_filt2 ns _ _ _ h
    · rw [if_pos q]
      rw [List.filter_cons_of_pos (by simp [q]), List.map_cons] at h
      refine lc_filt2 ns _ _ _ ?_
      rw [List.append_assoc]
      exact h
theorem lc_neg2 {A B : Option SV} {K : List D → Tk → Prop} : ∀ (ns : List Int) (c : Option SV) (acc : List D) (T : Tk), K (acc ++ (ns.map fun x => 0 - x).map D.int) T →
    lcD [A, B, c] (cN 2) dYes (dOp (oF fSub) (dC (.int 0)) (dVar 2)) K (ns.map D.int) acc T
  | [], c, acc, T, h => by
    rw [List.map_nil, List.map_nil, List.append_nil] at h
    exact h
  | n :: ns, c, acc, T, h => by
    rw [List.map_cons]
    walk_at "ev"
    refine lc_neg2 ns _ _ _ ?_
    rw [List.append_assoc]
    exact h
theorem w__law_formM {T : Tk} {n : Nat} {a b c d : Int} {k : KD} (h0 : bnd (a, b, c, d) ≠ 0) (s1 : Sz n a) (s2 : Sz n b) (s3 : Sz n c) (s4 : Sz n d) (hn : n ≤ 9000) (h : ∀ (r : R4) (g : Int), g ≠ 0 → (a, b, c, d) = mulR g r → Mr n r → k (rD r) T) : sm__law_form [.val (.tup [.int a, .int b, .int c, .int d])] T k := by
  obtain ⟨f1, f2, f3, x, x1, x2, x3⟩ := mr_form (P := fun r => k (rD r) T) h0 s1 s2 s3 s4 h
  rw [e__law_form, b__law_form]
  walk_at "ev"
  refine w__law_cut (ns := [a, b, c, d]) (by simp) x1 x2 (x3.mono hn) ?_
  walk_at "ev"
  have hl : (lowL [a, b, c, d]).length ≤ 1000000 := by simp [lowL]
  refine ⟨by simpa using hl, ?_⟩
  refine lc_filt2 _ _ _ _ ?_
  rw [List.nil_append]
  walk_at "ev"
  rw [filt_head _ f3]
  walk_at "ev"
  by_cases q : 0 < fnz (lowL [a, b, c, d])
  · rw [if_pos q]
    exact f1 q
  · rw [if_neg q]
    refine ⟨by simpa using hl, ?_⟩
    refine lc_neg2 _ _ _ _ ?_
    exact f2 q
theorem w__law_formR {T : Tk} {n : Nat} {r : R4} {k : KD} (h0 : 0 < bnd r) (s : S4 n r) (hn : n ≤ 9000) (h : ∀ (t : R4) (g : Int), g ≠ 0 → r = mulR g t → Rd n t → k (rD t) T) : sm__law_form [.val (rD r)] T k := by
  obtain ⟨a, b, c, d⟩ := r
  refine w__law_formM (Int.ne_of_gt h0) s.s1 s.s2 s.s3 s.s4 hn fun t g g0 e ht => h t g g0 e (ht.rd ?_)
  rw [e, bnd_mulR] at h0
  rcases Int.lt_or_le 0 (bnd t) with q | q
  · exact q
  · have := Int.mul_nonpos_of_nonneg_of_nonpos (mul_self_nonneg' g) q
    omega
theorem w_first_aboveM {T : Tk} {n : Nat} {a b c d : Int} {k : KD} (h0 : bnd (a, b, c, d) ≠ 0) (s1 : Sz n a) (s2 : Sz n b) (s3 : Sz n c) (s4 : Sz n d) (hn : n ≤ 9000) (h : ∀ (r : R4) (g : Int), g ≠ 0 → (a, b, c, d) = mulR g r → Mr n r → k (rD r) T) : sm_first_above [.val (.tup [.int a, .int b, .int c, .int d])] T k := by
  obtain ⟨f1, f2, f3, x, x1, x2, x3⟩ := mr_form (P := fun r => k (rD r) T) h0 s1 s2 s3 s4 h
  rw [e_first_above, b_first_above]
  walk_at "ev"
  refine w_lowest (ns := [a, b, c, d]) (by simp) x1 x2 (x3.mono hn) ?_
  have hq : (lowL [a, b, c, d]).map D.int = [.int (a / gcdL 0 [a, b, c, d]), .int (b / gcdL 0 [a, b, c, d]), .int (c / gcdL 0 [a, b, c, d]), .int (d / gcdL 0 [a, b, c, d])] := rfl
  rw [hq]
  walk_at "ev"
  refine w_is_led_up4 ?_
  walk_at "ev"
  by_cases q : 0 < fnz (lowL [a, b, c, d])
  · rw [if_pos (show 0 < fnz [a / gcdL 0 [a, b, c, d], b / gcdL 0 [a, b, c, d], c / gcdL 0 [a, b, c, d], d / gcdL 0 [a, b, c, d]] from q)]
    exact f1 q
  · rw [if_neg (show ¬ 0 < fnz [a / gcdL 0 [a, b, c, d], b / gcdL 0 [a, b, c, d], c / gcdL 0 [a, b, c, d], d / gcdL 0 [a, b, c, d]] from q)]
    have fin := f2 q
    simp only [Int.zero_sub] at fin
    exact fin
theorem w__law_placeW {T : Tk} {n : Nat} {w : Int} {k : KD} (hT : TkS T) (w1 : 1 ≤ w) (w2 : w ≤ 1000000) (hw : (w + 999).toNat < 2 ^ n) (hn : n ≤ 60) (h : ∀ q T', Pt n q → TkS T' → k (pD q) T') : sm__law_place [.tank, .val (.int w)] T k := by
  have n1 : 1 ≤ n := by
    rcases Nat.eq_zero_or_pos n with z | z
    · subst z
      have : (2 : Nat) ^ 0 = 1 := rfl
      omega
    · exact z
  rw [e__law_place, b__law_place]
  walk_at "wk"
  refine w__law_dip hT (by decide) (by decide) fun c T1 _ _ hT1 => ?_
  walk_at "wk"
  refine iteB_of (fun e => ?_) (fun e => ?_)
  · walk_at "wk"
    exact h pF T1 (pt_far n1) hT1
  · walk_at "wk"
    refine w__law_whole hT1 (by omega) (by omega) fun a T2 a0 a1 _ hT2 => ?_
    walk_at "wk"
    refine w__law_whole hT2 (by omega) (by omega) fun b T3 b0 b1 _ hT3 => ?_
    walk_at "wk"
    have hp : ∀ r : Int, -(w + 999) ≤ r → r ≤ w + 999 → Sz n r := fun r r0 r1 => sz_le r0 r1 hw
    have fin : ∀ c T', 1 ≤ c → c ≤ w → TkS T' → sm__law_cut [.val (.tup [.int a, .int b, .int c])] T' k := fun c T' c0 c1 hT' => w_cut3i (n := n) (by omega) (hp _ a0 a1) (hp _ b0 b1) (hp c (by omega) (by omega)) (by omega) fun q hq _ => h q T' hq.toPt hT'
    walk_at "wk"
    have m1 : 1 ≤ iMin w 1000 := by simp only [iMin]; split <;> omega
    have m2 : iMin w 1000 ≤ 1000 := by simp only [iMin]; split <;> omega
    have m3 : iMin w 1000 ≤ w := by simp only [iMin]; split <;> omega
    refine w__law_dip hT3 (by omega) (by omega) fun c T4 c0 c1 hT4 => ?_
    walk_at "wk"
    exact fin _ _ (by omega) (by omega) hT4
theorem isq_nonneg (n : Int) : 0 ≤ isq n := Int.natCast_nonneg _
theorem isq_spec {n : Int} (h : 0 ≤ n) : isq n * isq n ≤ n ∧ n < (isq n + 1) * (isq n + 1) := by
  obtain ⟨m, rfl⟩ := Int.eq_ofNat_of_zero_le h
  have := Float64.isqrt_spec m
  unfold isq
  rw [Int.toNat_natCast]
  generalize Float64.isqrt m = r at *
  constructor
  · exact_mod_cast this.1
  · exact_mod_cast this.2
theorem sq_le_of {a b : Int} (ha : 0 ≤ a) (hb : 0 ≤ b) (h : a * a < (b + 1) * (b + 1)) : a ≤ b := by
  rcases Int.lt_or_le b a with q | q
  · have h1 : b + 1 ≤ a := by omega
    have := Int.mul_le_mul h1 h1 (by omega) ha
    omega
  · exact q
theorem isq_of {n r : Int} (h0 : 0 ≤ r) (h1 : r * r ≤ n) (h2 : n < (r + 1) * (r + 1)) : isq n = r := by
  have hn : 0 ≤ n := Int.le_trans (mul_self_nonneg' r) h1
  obtain ⟨a, b⟩ := isq_spec hn
  have := sq_le_of h0 (isq_nonneg n) (Int.lt_of_le_of_lt h1 b)
  have := sq_le_of (isq_nonneg n) h0 (Int.lt_of_le_of_lt a h2)
  omega
theorem isq_sq {m : Int} (h : 0 ≤ m) : isq (m * m) = m := isq_of h (Int.le_refl _) (by grind)
theorem imax0 {a : Int} (h : 0 ≤ a) : iMax 0 a = a := by unfold iMax; split <;> omega
theorem imax0_nn (a : Int) : 0 ≤ iMax 0 a := by unfold iMax; split <;> omega
theorem isq_le {n : Int} (h : 0 ≤ n) : isq n ≤ n := by
  obtain ⟨a, _⟩ := isq_spec h
  have h0 := isq_nonneg n
  rcases Int.lt_or_le (isq n) 1 with q | q
  · omega
  · have := Int.mul_le_mul_of_nonneg_left q h0
    omega
theorem isq_sz {m : Nat} {n : Int} (h : 0 ≤ n) (q : Sz m n) : Sz m (isq n) := by
  have := isq_le h
  have := isq_nonneg n
  unfold Sz at *
  omega
theorem imax_sz {m : Nat} {n : Int} (q : Sz m n) : Sz m (iMax 0 n) := by
  unfold iMax
  split
  · exact q
  · exact Nat.two_pow_pos m
def cfound (z : Cx2) : Cx2 := (isq (iMax 0 ((isq (cnrm z) + z.1) / 2)), if 0 ≤ z.2 then isq (iMax 0 ((isq (cnrm z) - z.1) / 2)) else -isq (iMax 0 ((isq (cnrm z) - z.1) / 2)))
def croot (z : Cx2) : Option Cx2 := if cmul (cfound z) (cfound z) = z then some (cfound z) else none
def Upper (w : Cx2) : Prop := 0 < w.1 ∨ (w.1 = 0 ∧ 0 ≤ w.2)
theorem nrm_sq (w : Cx2) : cnrm (cmul w w) = cnrm w * cnrm w := by unfold cnrm cmul; grind
theorem nrm_nonneg (w : Cx2) : 0 ≤ cnrm w := Int.add_nonneg (mul_self_nonneg' _) (mul_self_nonneg' _)
def iabs (a : Int) : Int := if 0 ≤ a then a else -a
theorem iabs_nn (a : Int) : 0 ≤ iabs a := by unfold iabs; split <;> omega
theorem iabs_sq (a : Int) : iabs a * iabs a = a * a := by unfold iabs; split <;> grind
theorem upper_parts {w : Cx2} : isq (cnrm (cmul w w)) = cnrm w ∧ (cnrm w + (cmul w w).1) / 2 = iabs w.1 * iabs w.1 ∧ (cnrm w - (cmul w w).1) / 2 = iabs w.2 * iabs w.2 ∧ (cnrm w + (cmul w w).1) % 2 = 0 := by
  refine ⟨by rw [nrm_sq, isq_sq (nrm_nonneg w)], ?_, ?_, ?_⟩
  · rw [iabs_sq]; unfold cnrm cmul; simp only; generalize w.1 * w.1 = x; generalize w.2 * w.2 = y; omega
  · rw [iabs_sq]; unfold cnrm cmul; simp only; generalize w.1 * w.1 = x; generalize w.2 * w.2 = y; omega
  · unfold cnrm cmul; simp only; generalize w.1 * w.1 = x; generalize w.2 * w.2 = y; omega
theorem upper_sign {w : Cx2} (h : Upper w) : (iabs w.1, if 0 ≤ (cmul w w).2 then iabs w.2 else -iabs w.2) = w := by
  obtain ⟨a, b⟩ := w
  unfold Upper at h
  have e : (cmul (a, b) (a, b)).2 = 2 * (a * b) := by unfold cmul; simp only; grind
  simp only at h ⊢
  rcases h with h | ⟨rfl, h⟩
  · have e1 : iabs a = a := by unfold iabs; rw [if_pos (by omega)]
    rw [e1]
    rcases Int.lt_or_le b 0 with q | q
    · have : a * b < 0 := Int.mul_neg_of_pos_of_neg h q
      rw [if_neg (by omega)]
      unfold iabs
      rw [if_neg (by omega)]
      ext <;> simp
    · have : 0 ≤ a * b := Int.mul_nonneg (by omega) q
      rw [if_pos (by omega)]
      unfold iabs
      rw [if_pos q]
  · rw [if_pos (by omega)]
    unfold iabs
    rw [if_pos h, if_pos (by decide)]
theorem croot_some {w : Cx2} (h : Upper w) : croot (cmul w w) = some w := by
  have e : cfound (cmul w w) = w := by
    unfold cfound
    obtain ⟨h1, h2, h3, _⟩ := upper_parts (w := w)
    rw [h1, h2, h3]
    have m1 : iMax 0 (iabs w.1 * iabs w.1) = iabs w.1 * iabs w.1 := imax0 (mul_self_nonneg' _)
    have m2 : iMax 0 (iabs w.2 * iabs w.2) = iabs w.2 * iabs w.2 := imax0 (mul_self_nonneg' _)
    rw [m1, m2, isq_sq (iabs_nn _), isq_sq (iabs_nn _)]
    exact upper_sign h
  unfold croot
  rw [e, if_pos rfl]
theorem croot_inv {z w : Cx2} (h : croot z = some w) : cmul w w = z ∧ Upper w := by
  unfold croot at h
  split at h
  · rename_i e
    simp only [Option.some.injEq] at h
    rw [← h]
    refine ⟨e, ?_⟩
    unfold Upper
    have h0 : 0 ≤ (cfound z).1 := isq_nonneg _
    by_cases q : (cfound z).1 = 0
    · refine .inr ⟨q, ?_⟩
      have e2 : z.2 = 0 := by rw [← e]; unfold cmul; simp only [q]; simp
      unfold cfound
      simp only [e2]
      exact isq_nonneg _
    · omega
  · cases h
def uppr (w : Cx2) : Cx2 := if w.1 < 0 ∨ (w.1 = 0 ∧ w.2 < 0) then (-w.1, -w.2) else w
theorem uppr_Upper (w : Cx2) : Upper (uppr w) := by
  unfold uppr Upper
  split
  · show 0 < -w.1 ∨ (-w.1 = 0 ∧ 0 ≤ -w.2); omega
  · omega
theorem uppr_sq (w : Cx2) : cmul (uppr w) (uppr w) = cmul w w := by
  unfold uppr
  split
  · unfold cmul; ext <;> simp only <;> grind
  · rfl
local macro_rules | `(tactic| walk_at "gz") => `(tactic| (repeat' (first | assumption | exact sz2x | exact szm2x | apply Cz.mulG | apply Cz.addG | apply Cz.cjG | apply Cz.scG | apply Cz.reG | apply Cz.imG | apply Sz.mul | apply Sz.neg)))
local macro_rules | `(tactic| walk_at "mk") => `(tactic| (apply Sz.mulOk; (repeat' (first | assumption | exact sz2x | exact szm2x | apply Cz.reG | apply Cz.imG | apply Cz.mulG | apply Cz.addG | apply Cz.cjG | apply Cz.scG | apply Sz.mul | apply Sz.add | apply Sz.sub | apply Sz.neg)); all_goals omega))
local macro_rules | `(tactic| walk_at "sw") => `(tactic| ((first | with_reducible refine w__law_conjG ?_ | with_reducible refine w__law_timesG (by walk_at "gz") (by walk_at "gz") (by omega) (by omega) ?_ | with_reducible refine w__law_plusG ?_ | with_reducible refine And.intro (by walk_at "mk") ?_); walk_at "wk"))
theorem w__law_joinedW {T : Tk} {n l : Nat} {f g : Int} {m m' : G4} {k : KD} (hf : f = 0 ∨ f = 1) (hg : g = 0 ∨ g = 1) (hm : N4 n m) (hm' : N4 l m') (hn : n + l ≤ 4000) (h : k (mD ((f + g) % 2) (Pr f m m')) T) : sm__law_joined [.val (mD f m), .val (mD g m')] T k := by
  have A1 := hm.s1.cz
  have A2 := hm.s2.cz
  have A3 := hm.s3.cz
  have A4 := hm.s4.cz
  have B1 := hm'.s1.cz
  have B2 := hm'.s2.cz
  have B3 := hm'.s3.cz
  have B4 := hm'.s4.cz
  have eh : f + g - 2 * f * g = (f + g) % 2 := by rcases hf with rfl | rfl <;> rcases hg with rfl | rfl <;> rfl
  have mf : MulOk 2 f := lit_mul (by decide)
  have mg : MulOk (2 * f) g := lit_mul (by rcases hf with rfl | rfl <;> decide)
  obtain ⟨a, b, c, d⟩ := m
  obtain ⟨a', b', c', d'⟩ := m'
  simp only at A1 A2 A3 A4 B1 B2 B3 B4
  rw [e__law_joined, b__law_joined]
  walk_at "wk"
  by_cases z : f = 1
  · subst z
    refine iteB_p (by decide) ?_
    walk_at "wk"
    repeat (walk_at "sw")
    have e : Pr 1 (a, b, c, d) (a', b', c', d') = (a * a'.cj + b * c'.cj, a * b'.cj + b * d'.cj, c * a'.cj + d * c'.cj, c * b'.cj + d * d'.cj) := rfl
    rw [e] at h
    refine ⟨lit_mul (by decide), lit_mul (by decide), ?_⟩
    rw [show (1 : Int) + g - 2 * g = (1 + g) % 2 by rcases hg with rfl | rfl <;> rfl]
    exact h
  · have z0 : f = 0 := hf.resolve_right z
    subst z0
    refine iteB_n (by decide) ?_
    walk_at "wk"
    repeat (walk_at "sw")
    have e : Pr 0 (a, b, c, d) (a', b', c', d') = (a * a' + b * c', a * b' + b * d', c * a' + d * c', c * b' + d * d') := rfl
    rw [e] at h
    refine ⟨lit_mul (by decide), lit_mul (by decide), ?_⟩
    rw [show (0 : Int) + g - 0 * g = (0 + g) % 2 by rcases hg with rfl | rfl <;> rfl]
    exact h
theorem w__law_backW {T : Tk} {f : Int} {m : G4} {k : KD} (hf : f = 0 ∨ f = 1) (h : k (mD f (Bk f m)) T) : sm__law_back [.val (mD f m)] T k := by
  obtain ⟨a, b, c, d⟩ := m
  rw [e__law_back, b__law_back]
  walk_at "wk"
  by_cases z : f = 1
  · subst z
    refine iteB_p (by decide) ?_
    walk_at "wk"
    refine w__law_conjG ?_
    walk_at "wk"
    refine w__law_conjG ?_
    walk_at "wk"
    refine w__law_conjG ?_
    walk_at "wk"
    refine w__law_conjG ?_
    walk_at "wk"
    refine w__law_minusU ?_
    walk_at "wk"
    refine w__law_minusU ?_
    walk_at "wk"
    have e : Bk 1 (a, b, c, d) = (d.cj, -b.cj, -c.cj, a.cj) := by
      unfold Bk flm adjm fl
      simp only [if_true, Prod.mk.injEq, and_true, true_and]
      exact ⟨rfl, rfl⟩
    rw [e] at h
    exact h
  · have z0 : f = 0 := hf.resolve_right z
    subst z0
    refine iteB_n (by decide) ?_
    walk_at "wk"
    refine w__law_minusU ?_
    walk_at "wk"
    refine w__law_minusU ?_
    walk_at "wk"
    have e : Bk 0 (a, b, c, d) = (d, -b, -c, a) := rfl
    rw [e] at h
    exact h
theorem w__law_afterW {T : Tk} {n l : Nat} {f g : Int} {m m' : G4} {k : KD} (hf : f = 0 ∨ f = 1) (hg : g = 0 ∨ g = 1) (hm : N4 n m) (hm' : N4 l m') (d : dtG m ≠ 0) (d' : dtG m' ≠ 0) (hn : n + l ≤ 1900) (h : ∀ x, Fm (n + l + 2) (Pr f m m') x → k (mD ((f + g) % 2) x) T) : sm__law_after [.val (mD f m), .val (mD g m')] T k := by
  have N := n4_pr (f := f) hm hm'
  rw [e__law_after, b__law_after]
  walk_at "wk"
  refine w__law_joinedW hf hg hm hm' (by omega) ?_
  walk_at "wk"
  exact w__law_chartG (N := Pr f m m') N.s1 N.s2 N.s3 N.s4 (by omega) (dt_fst (dt_pr d d')) h
theorem w__law_fourW {T : Tk} {n : Nat} {w : Int} {k : KD} (hT : TkS T) (w1 : 1 ≤ w) (w2 : w ≤ 1000000) (hw : (w + 999).toNat < 2 ^ n) (hn : n ≤ 60) (h : ∀ (N : G4) T', N4 (2 * n + 4) N → dtG N ≠ 0 → TkS T' → k (.lst [gD N.1, gD N.2.1, gD N.2.2.1, gD N.2.2.2]) T') : sm__law_four [.tank, .val (.int w)] T k := by
  have hp : ∀ r : Int, -(w + 999) ≤ r → r ≤ w + 999 → Sz n r := fun r r0 r1 => sz_le r0 r1 hw
  rw [e__law_four, b__law_four]
  walk_at "wki"
  refine w__law_whole hT (by omega) (by omega) fun a1 T1 a2 a3 _ hT1 => ?_
  walk_at "wki"
  refine w__law_whole hT1 (by omega) (by omega) fun b1 T2 b2 b3 _ hT2 => ?_
  walk_at "wki"
  refine w__law_whole hT2 (by omega) (by omega) fun c1 T3 c2 c3 _ hT3 => ?_
  walk_at "wki"
  refine w__law_whole hT3 (by omega) (by omega) fun d1 T4 d2 d3 _ hT4 => ?_
  walk_at "wki"
  refine w__law_whole hT4 (by omega) (by omega) fun e1 T5 e2 e3 _ hT5 => ?_
  walk_at "wki"
  refine w__law_whole hT5 (by omega) (by omega) fun f1 T6 f2 f3 _ hT6 => ?_
  walk_at "wki"
  refine w__law_whole hT6 (by omega) (by omega) fun g1 T7 g2 g3 _ hT7 => ?_
  walk_at "wki"
  refine w__law_whole hT7 (by omega) (by omega) fun h1 T8 h2 h3 _ hT8 => ?_
  obtain ⟨a, ea⟩ : ∃ a : Gi, a = ⟨a1, b1⟩ := ⟨_, rfl⟩
  obtain ⟨b, eb⟩ : ∃ a : Gi, a = ⟨c1, d1⟩ := ⟨_, rfl⟩
  obtain ⟨c, ec⟩ : ∃ a : Gi, a = ⟨e1, f1⟩ := ⟨_, rfl⟩
  obtain ⟨d, ed⟩ : ∃ a : Gi, a = ⟨g1, h1⟩ := ⟨_, rfl⟩
  have da : D.tup [.int a1, .int b1] = gD a := by rw [ea]
  have db : D.tup [.int c1, .int d1] = gD b := by rw [eb]
  have dc : D.tup [.int e1, .int f1] = gD c := by rw [ec]
  have dd : D.tup [.int g1, .int h1] = gD d := by rw [ed]
  have na : Cz n (a.re, a.im) := by rw [ea]; exact ⟨hp _ a2 a3, hp _ b2 b3⟩
  have nb : Cz n (b.re, b.im) := by rw [eb]; exact ⟨hp _ c2 c3, hp _ d2 d3⟩
  have nc : Cz n (c.re, c.im) := by rw [ec]; exact ⟨hp _ e2 e3, hp _ f2 f3⟩
  have nd : Cz n (d.re, d.im) := by rw [ed]; exact ⟨hp _ g2 g3, hp _ h2 h3⟩
  walk_at "wki"
  rw [da, db, dc, dd]
  have nz : ∀ {x : Gi}, Cz n (x.re, x.im) → Nz (2 * n + 4) x := fun hx => (nz_cz hx).mono (by omega)
  have c10 : Cz n ((1 : Gi).re, (1 : Gi).im) := ⟨hp 1 (by omega) (by omega), hp 0 (by omega) (by omega)⟩
  have c00 : Cz n ((0 : Gi).re, (0 : Gi).im) := ⟨hp 0 (by omega) (by omega), hp 0 (by omega) (by omega)⟩
  have c01 : Cz n ((⟨0, 1⟩ : Gi).re, (⟨0, 1⟩ : Gi).im) := ⟨hp 0 (by omega) (by omega), hp 1 (by omega) (by omega)⟩
  refine w__law_timesG na nd (by omega) (by omega) ?_
  walk_at "wki"
  refine w__law_timesG nb nc (by omega) (by omega) ?_
  walk_at "wki"
  rw [gi_dc]
  by_cases z : a * d = b * c
  · refine iteB_p (decide_eq_true z) ?_
    walk_at "wki"
    rw [dec_gi]
    by_cases y : a = 0
    · refine iteB_p (decide_eq_true y) ?_
      walk_at "wki"
      refine h (1, b, 0, ⟨0, 1⟩) T8 ⟨nz c10, nz nb, nz c00, nz c01⟩ ?_ hT8
      unfold dtG
      simp only
      intro e
      have := congrArg Gi.im e
      simp only [Gi.sub_im, Gi.mul_im] at this
      rw [show (1 : Gi).re = 1 from rfl, show (1 : Gi).im = 0 from rfl, show (0 : Gi).re = 0 from rfl, show (0 : Gi).im = 0 from rfl] at this
      omega
    · refine iteB_n (decide_eq_false y) ?_
      walk_at "wki"
      refine h (a, b, c, ⟨d.re + 1, d.im⟩) T8 ⟨nz na, nz nb, nz nc, ?_⟩ ?_ hT8
      · exact (nz_of (n := n + 1) (nd.1.add (hp 1 (by omega) (by omega)) |>.mono (by omega)) (nd.2.mono (by omega))).mono (by omega)
      · unfold dtG
        simp only
        intro e
        apply y
        have e2 : a * (⟨d.re + 1, d.im⟩ : Gi) - b * c = a + (a * d - b * c) := Gi.ext' (by simp only [Gi.sub_re, Gi.add_re, Gi.mul_re]; grind) (by simp only [Gi.sub_im, Gi.add_im, Gi.mul_im]; grind)
        rw [e2, z] at e
        grind
  · refine iteB_n (decide_eq_false z) ?_
    walk_at "wki"
    refine h (a, b, c, d) T8 ⟨nz na, nz nb, nz nc, nz nd⟩ ?_ hT8
    unfold dtG
    simp only
    intro e
    apply z
    grind
theorem w__law_mapW {T : Tk} {n : Nat} {w : Int} {k : KD} (hT : TkS T) (w1 : 1 ≤ w) (w2 : w ≤ 1000000) (hw : (w + 999).toNat < 2 ^ n) (hn : n ≤ 60) (h : ∀ f m T', Mq (2 * n + 4) f m → TkS T' → k (mD f m) T') : sm__law_map [.tank, .val (.int w)] T k := by
  rw [e__law_map, b__law_map]
  walk_at "wk"
  refine w__law_dip hT (by decide) (by decide) fun f T1 f0 f1 hT1 => ?_
  walk_at "wk"
  refine w__law_fourW hT1 w1 w2 hw hn fun N T2 hN hd hT2 => ?_
  walk_at "wk"
  exact w__law_chartG hN.s1 hN.s2 hN.s3 hN.s4 (by omega) (dt_fst hd) fun m hm => h f m T2 (hm.mq (by omega) hd) hT2

theorem mround_b0 {q l m k : Int} (nz : ¬(q = 0 ∧ l = 0 ∧ m = 0)) : (¬ l * l + m * m ≤ 4 * q * k → 0 < bnd (q, l, m, k)) ∧ (l * l + m * m ≤ 4 * q * k → k ≠ 0 → 0 < bnd (q, l, m, 0 - k)) ∧ (l * l + m * m ≤ 4 * q * k → k = 0 → 0 < bnd (q, l, m, 0 - q)) := by
  have h1 := mul_self_nonneg' l
  have h2 := mul_self_nonneg' m
  have lm : l * l + m * m ≤ 0 → l = 0 ∧ m = 0 := fun e => by
    have a : l * l = 0 := by omega
    have b : m * m = 0 := by omega
    exact ⟨(Int.mul_eq_zero.mp a).elim id id, (Int.mul_eq_zero.mp b).elim id id⟩
  unfold bnd
  simp only
  refine ⟨fun e => by omega, fun e k0 => ?_, fun e k0 => ?_⟩
  · have e2 : 4 * q * (0 - k) = -(4 * q * k) := by grind
    rw [e2]
    rcases Int.lt_or_le 0 (l * l + m * m - -(4 * q * k)) with o | o
    · exact o
    · obtain ⟨rfl, rfl⟩ := lm (by omega)
      have e : 4 * q * k = 0 := by simp only [Int.mul_zero] at o e; omega
      have : q = 0 := by
        rcases Int.mul_eq_zero.mp e with y | y
        · omega
        · exact absurd y k0
      exact absurd ⟨this, rfl, rfl⟩ nz
  · subst k0
    rw [Int.mul_zero] at e
    obtain ⟨rfl, rfl⟩ := lm e
    have q0 : q ≠ 0 := fun y => nz ⟨y, rfl, rfl⟩
    have := imul_self_pos q0
    have e2 : 4 * q * (0 - q) = -(4 * (q * q)) := by grind
    rw [e2]
    omega
theorem not000' {a b c : Int} (e : (decide (a = 0) && (decide (b = 0) && decide (c = 0))) = false) : ¬(a = 0 ∧ b = 0 ∧ c = 0) := fun ⟨x, y, z⟩ => by
  rw [decide_eq_true x, decide_eq_true y, decide_eq_true z] at e
  exact absurd e (by decide)
theorem w__law_roundW {T : Tk} {n : Nat} {w : Int} {k : KD} (hT : TkS T) (w1 : 1 ≤ w) (w2 : w ≤ 1000000) (hw : (w + 999).toNat < 2 ^ n) (hn : n ≤ 60) (h : ∀ r T', Rd n r → TkS T' → k (rD r) T') : sm__law_round [.tank, .val (.int w)] T k := by
  have hp : ∀ r : Int, -(w + 999) ≤ r → r ≤ w + 999 → Sz n r := fun r r0 r1 => sz_le r0 r1 hw
  rw [e__law_round, b__law_round]
  walk_at "wki"
  refine w__law_whole hT (by omega) (by omega) fun q T1 q0 q1 _ hT1 => ?_
  walk_at "wki"
  refine w__law_whole hT1 (by omega) (by omega) fun l T2 l0 l1 _ hT2 => ?_
  walk_at "wki"
  refine w__law_whole hT2 (by omega) (by omega) fun m T3 m0 m1 _ hT3 => ?_
  walk_at "wki"
  refine w__law_whole hT3 (by omega) (by omega) fun d T4 d0 d1 _ hT4 => ?_
  walk_at "wki"
  refine w__law_dip hT4 (by decide) (by decide) fun e T5 e0 e1 hT5 => ?_
  have sq := hp _ q0 q1
  have sl := hp _ l0 l1
  have sm := hp _ m0 m1
  have sd := hp _ d0 d1
  have fin : ∀ a b c d, Sz n a → Sz n b → Sz n c → Sz n d → 0 < bnd (a, b, c, d) → sm__law_form [.val (.tup [.int a, .int b, .int c, .int d])] T5 k := fun a b c d sa sb sc sd b0 => w__law_formR (r := (a, b, c, d)) b0 ⟨sa, sb, sc, sd⟩ (by omega) fun r g g0 e hr => h r T5 hr hT5
  have mul1 : ∀ {a b : Int}, Sz n a → Sz n b → MulOk a b := fun sa sb => sa.mulOk sb (by omega) (by omega)
  have mul4 : ∀ {a b : Int}, Sz n a → Sz n b → MulOk (4 * a) b := fun sa sb => (sz_4.mul sa).mulOk sb (by omega) (by omega)
  have one : Sz n 1 := hp _ (by omega) (by omega)
  have sn : Sz n (0 - d) := hp _ (by omega) (by omega)
  have sq2 : Sz n (0 - q) := hp _ (by omega) (by omega)
  have z0 : Sz n 0 := sz_0
  have ll := mul_self_nonneg' l
  have mm := mul_self_nonneg' m
  clear hT hT1 hT2 hT3 hT4 q0 q1 l0 l1 m0 m1 d0 d1
  walk_at "wki"
  refine iteB_of (fun _ => ?_) (fun _ => ?_)
  · walk_at "wki"
    refine iteB_of (fun y => ?_) (fun y => ?_)
    · walk_at "wki"
      refine ⟨mul1 one one, mul1 sm sm, lit_mul (by decide), lit_mul (by decide), ?_⟩
      have nz : ¬ (1 : Int) * (1 : Int) + m * m ≤ 4 * 0 * d := by omega
      obtain ⟨f1, f2, f3⟩ := mround_b0 (k := d) (show ¬((0 : Int) = 0 ∧ (1 : Int) = 0 ∧ m = 0) from fun ⟨_, a, b⟩ => nz (by first | omega | (rw [a, b]; simp)))
      refine iteB_n (decide_eq_false fun z => nz (by first | omega | (rw [Int.zero_mul] at z; omega))) ?_
      walk_at "wki"
      exact fin _ _ _ _ z0 one sm sd (f1 nz)
    · have y2 : ¬(l = 0 ∧ m = 0) := by simpa using y
      walk_at "wki"
      refine ⟨mul1 sl sl, mul1 sm sm, lit_mul (by decide), lit_mul (by decide), ?_⟩
      have nz : ¬ l * l + m * m ≤ 4 * 0 * d := fun z => by
        have z : l * l + m * m = 0 := by omega
        exact y2 ⟨(Int.mul_eq_zero.mp (show l * l = 0 by omega)).elim id id, (Int.mul_eq_zero.mp (show m * m = 0 by omega)).elim id id⟩
      obtain ⟨f1, f2, f3⟩ := mround_b0 (k := d) (show ¬((0 : Int) = 0 ∧ l = 0 ∧ m = 0) from fun ⟨_, a, b⟩ => nz (by first | omega | (rw [a, b]; simp)))
      refine iteB_n (decide_eq_false fun z => nz (by first | omega | (rw [Int.zero_mul] at z; omega))) ?_
      walk_at "wki"
      exact fin _ _ _ _ z0 sl sm sd (f1 nz)
  · walk_at "wki"
    refine iteB_of (fun y => ?_) (fun y => ?_)
    · walk_at "wki"
      refine ⟨mul1 one one, mul1 sm sm, lit_mul (by decide), mul4 sq sd, ?_⟩
      obtain ⟨f1, f2, f3⟩ := mround_b0 (k := d) (show ¬(q = 0 ∧ (1 : Int) = 0 ∧ m = 0) from fun ⟨_, z, _⟩ => absurd z (by decide))
      refine iteB_of (fun c => ?_) (fun c => ?_)
      · have c : (1 : Int) * (1 : Int) + m * m ≤ 4 * q * d := by simpa using c
        walk_at "wki"
        refine iteB_of (fun d1 => ?_) (fun d1 => ?_)
        · have d1 : d = 0 := of_decide_eq_true d1
          walk_at "wki"
          exact fin _ _ _ _ sq one sm sq2 (f3 c d1)
        · have d1 : d ≠ 0 := of_decide_eq_false d1
          walk_at "wki"
          exact fin _ _ _ _ sq one sm sn (f2 c d1)
      · have c : ¬ (1 : Int) * (1 : Int) + m * m ≤ 4 * q * d := by simpa using c
        walk_at "wki"
        exact fin _ _ _ _ sq one sm sd (f1 c)
    · have y2 := not000' y
      walk_at "wki"
      refine ⟨mul1 sl sl, mul1 sm sm, lit_mul (by decide), mul4 sq sd, ?_⟩
      obtain ⟨f1, f2, f3⟩ := mround_b0 (k := d) (show ¬(q = 0 ∧ l = 0 ∧ m = 0) from y2)
      refine iteB_of (fun c => ?_) (fun c => ?_)
      · have c : l * l + m * m ≤ 4 * q * d := by simpa using c
        walk_at "wki"
        refine iteB_of (fun d1 => ?_) (fun d1 => ?_)
        · have d1 : d = 0 := of_decide_eq_true d1
          walk_at "wki"
          exact fin _ _ _ _ sq sl sm sq2 (f3 c d1)
        · have d1 : d ≠ 0 := of_decide_eq_false d1
          walk_at "wki"
          exact fin _ _ _ _ sq sl sm sn (f2 c d1)
      · have c : ¬ l * l + m * m ≤ 4 * q * d := by simpa using c
        walk_at "wki"
        exact fin _ _ _ _ sq sl sm sd (f1 c)

theorem root_loop {F : dEnds} {n : Int} {m : Nat} {T : Tk} (n0 : 0 ≤ n) (hm : m ≤ 8002) (fin : ∀ x1 x2 x3, F.nx [some (.val (.int n)), some (.val (.int (isq n))), x1, x2, x3] T) :
    ∀ (j : Nat) (s : Int) (lo : Int) (x3 x4 : Option SV), 0 ≤ lo → lo * lo ≤ n → n < (lo + 2 ^ j) * (lo + 2 ^ j) → Sz m (lo + 2 ^ j) →
    forL (gN 3) (sSeq (sAsg (dOp (oF fDiv) (dOp (oF fAdd) (dVar 1) (dVar 2)) (dC (.int 2))) (gN 4)) (sIf (dTst (dOp (oF fLe) (dOp (oF fMul) (dVar 4) (dVar 4)) (dVar 0))) (sAsg (dVar 4) (gN 1)) (sAsg (dVar 4) (gN 2)))) F (intsL s (j + 1)) [some (.val (.int n)), some (.val (.int lo)), some (.val (.int (lo + 2 ^ j))), x3, x4] T := by
  intro j
  induction j with
  | zero =>
    intro s lo x3 x4 l0 l1 l2 sz
    rw [intsL, forL_c]
    have e : isq n = lo := isq_of l0 l1 (by simpa using l2)
    have sl : Sz m lo := by unfold Sz at sz ⊢; simp only [Int.pow_zero] at sz; omega
    have em : (lo + (lo + 1)) / 2 = lo := by omega
    walk_at "wkn"
    rw [em]
    refine ⟨lit_div (by decide) (by decide), sl.mulOk sl (by omega) (by omega), ?_⟩
    refine iteB_p (decide_eq_true l1) ?_
    walk_at "wkn"
    rw [← e]
    exact fin _ _ _
  | succ j ih =>
    intro s lo x3 x4 l0 l1 l2 sz
    have p0 : (0 : Int) < 2 ^ j := Int.pow_pos (by decide)
    have pe : (2 : Int) ^ (j + 1) = 2 * 2 ^ j := by rw [Int.pow_succ, Int.mul_comm]
    rw [pe] at l2 sz ⊢
    have em : (lo + (lo + 2 * 2 ^ j)) / 2 = lo + 2 ^ j := by omega
    have sl : Sz m (lo + 2 ^ j) := by unfold Sz at sz ⊢; omega
    have ih1 := ih (s + 1) (lo + 2 ^ j) (some (.val (.int s))) (some (.val (.int (lo + 2 ^ j)))) (by omega)
    have ih2 := ih (s + 1) lo (some (.val (.int s))) (some (.val (.int (lo + 2 ^ j)))) l0 l1
    rw [show lo + 2 ^ j + 2 ^ j = lo + 2 * 2 ^ j by omega] at ih1
    rw [intsL, forL_c]
    generalize forL (gN 3) (sSeq (sAsg (dOp (oF fDiv) (dOp (oF fAdd) (dVar 1) (dVar 2)) (dC (.int 2))) (gN 4)) (sIf (dTst (dOp (oF fLe) (dOp (oF fMul) (dVar 4) (dVar 4)) (dVar 0))) (sAsg (dVar 4) (gN 1)) (sAsg (dVar 4) (gN 2)))) F (intsL (s + 1) (j + 1)) = R at ih1 ih2 ⊢
    walk_at "wkn"
    rw [em]
    refine ⟨lit_div (by decide) (by decide), sl.mulOk sl (by omega) (by omega), ?_⟩
    refine iteB_of (fun e => ?_) (fun e => ?_)
    · have e := of_decide_eq_true e
      walk_at "wkn"
      exact ih1 e l2 sz
    · have e := of_decide_eq_false e
      walk_at "wkn"
      exact ih2 (by omega) sl
theorem w__law_rootI {T : Tk} {n : Int} {m : Nat} {k : KD} (n0 : 0 ≤ n) (sn : Sz m n) (hm : m ≤ 8000) (h : k (.int (isq n)) T) : sm__law_root [.val (.int n)] T k := by
  have b0 := bitI_nn n
  have b1 := bitI_le sn
  have b2 := bitI_lt n0
  rw [e__law_root, b__law_root]
  walk_at "wkn"
  obtain ⟨j, hj⟩ : ∃ j : Nat, bitI n / 2 + 1 = j := ⟨(bitI n / 2 + 1).toNat, by omega⟩
  have hj2 : bitI n / 2 + 2 = (j : Int) + 1 := by omega
  have big : n < (0 + 2 ^ j) * (0 + 2 ^ j) := by
    rw [Int.zero_add, ← Int.pow_add]
    have : (2 : Int) ^ (bitI n).toNat ≤ 2 ^ (j + j) := by exact_mod_cast Nat.pow_le_pow_right (n := 2) (by decide) (by omega)
    omega
  have sj : Sz (m + 2) (0 + (2 : Int) ^ j) := by
    rw [Int.zero_add]
    unfold Sz
    have e : ((2 : Int) ^ j).natAbs = 2 ^ j := by rw [Int.natAbs_pow]; rfl
    rw [e]
    exact Nat.pow_lt_pow_right (by decide) (by omega)
  rw [hj, hj2, show (j : Int).toNat = j by omega, show ((j : Int) + 1).toNat = j + 1 by omega, ← Int.zero_add (2 ^ j : Int)]
  refine ⟨lit_div (by decide) (by decide), ⟨by omega, by omega, by decide⟩, lit_div (by decide) (by decide), ⟨by omega, by omega⟩, ?_⟩
  refine root_loop (m := m + 2) n0 (by omega) (fun x1 x2 x3 => ?_) j 0 0 _ _ (Int.le_refl _) (by omega) big sj
  walk_at "wkn"
  exact h

/-! kinds and kept places of plain maps -/
def trG (m : G4) : Gi := m.1 + m.2.2.2
def lvG (m : G4) : Gi := (m.1 - m.2.2.2) * (m.1 - m.2.2.2) + (m.2.1 * m.2.2.1 + m.2.1 * m.2.2.1 + m.2.1 * m.2.2.1 + m.2.1 * m.2.2.1)
/-- a plain map keeps the place -/
def Kpt (m : G4) (q : P3) : Prop := zG q * apw m (zG q) (rG q) = rG q * apz m (zG q) (rG q)
theorem Kpt.scl {c : Gi} {m : G4} {q : P3} (c0 : c ≠ 0) : Kpt (scl c m) q ↔ Kpt m q := by
  unfold Kpt
  obtain ⟨e1, e2⟩ := ap_scl c m (zG q) (rG q)
  rw [e1, e2]
  clear e1 e2
  generalize apw m (zG q) (rG q) = x
  generalize apz m (zG q) (rG q) = y
  generalize zG q = z
  generalize rG q = r
  clear q m
  constructor
  · intro h
    refine Gi.cancel c0 ?_
    grind
  · intro h
    grind
theorem g2_ex : ∀ (n : Nat) (a b : Gi), b.nm.toNat ≤ n → ∃ g, G2 g a b
  | 0, a, b, h => by
    have := b.nm_nn
    have z : b = 0 := Gi.nm_zero (by omega)
    rw [z]
    exact ⟨a, G2.zero a⟩
  | n + 1, a, b, h => by
    by_cases z : b = 0
    · rw [z]; exact ⟨a, G2.zero a⟩
    · have p := Gi.nm_pos z
      have q := nearG_nm (a := a) z
      have r := (a - nearG a b * b).nm_nn
      obtain ⟨g, hg⟩ := g2_ex n b (a - nearG a b * b) (by omega)
      exact ⟨g, hg.step⟩
theorem sq_int {l w e : Gi} (hw : w ≠ 0) (h : l * (w * w) = e * e) : ∃ u, l = u * u := by
  obtain ⟨g, ⟨x, hx⟩, ⟨y, hy⟩, u, v, hs⟩ := g2_ex _ e w (Nat.le_refl _)
  have g0 : g ≠ 0 := fun z => hw (by rw [hy, z]; grind)
  have b1 : u * x + v * y = 1 := by
    refine Gi.cancel g0 ?_
    rw [hx, hy] at hs
    grind
  have b2 : l * (y * y) = x * x := by
    refine Gi.cancel (Gi.mul_ne g0 g0) ?_
    rw [hx, hy] at h
    grind
  clear hs hx hy h hw g0
  have b3 : y * (u * u * l * y + v + v - v * v * y) = 1 := by
    have : u * x = 1 - v * y := by grind
    have : (u * x) * (u * x) = (1 - v * y) * (1 - v * y) := by rw [this]
    have : u * u * (x * x) = (1 - v * y) * (1 - v * y) := by grind
    rw [← b2] at this
    grind
  generalize u * u * l * y + v + v - v * v * y = t at b3
  refine ⟨x * t, ?_⟩
  have : l = l * (y * t) * (y * t) := by rw [b3]; grind
  grind
def pG (z : Cx2) : Gi := ⟨z.1, z.2⟩
theorem pG_mul (z w : Cx2) : pG (cmul z w) = pG z * pG w := rfl
theorem croot_sq {l u : Gi} (h : l = u * u) : ∃ w, croot (l.re, l.im) = some w ∧ pG w * pG w = l := by
  have e : (l.re, l.im) = cmul (uppr (u.re, u.im)) (uppr (u.re, u.im)) := by rw [uppr_sq, h]; rfl
  rw [e]
  exact ⟨_, croot_some (uppr_Upper _), by rw [← pG_mul, ← e]; rfl⟩
theorem croot_isq {l : Gi} {w : Cx2} (h : croot (l.re, l.im) = some w) : pG w * pG w = l := by
  obtain ⟨e, _⟩ := croot_inv h
  rw [← pG_mul, e]; rfl
theorem kept_e {m : G4} {q : P3} (h : Kpt m q) : ((m.2.2.1 + m.2.2.1) * zG q - (m.1 - m.2.2.2) * rG q) * ((m.2.2.1 + m.2.2.1) * zG q - (m.1 - m.2.2.2) * rG q) = lvG m * (rG q * rG q) := by
  unfold Kpt apz apw at h
  unfold lvG
  generalize zG q = z at *
  generalize rG q = r at *
  obtain ⟨a, b, c, d⟩ := m
  simp only at *
  grind
theorem kept_r {n : Nat} {m : G4} {q : P3} (hq : Pt n q) (c0 : m.2.2.1 ≠ 0) (h : Kpt m q) : rG q ≠ 0 := by
  intro z
  have e : q.2.2 = 0 := congrArg Gi.re z
  have f := hq.far e
  subst f
  unfold Kpt apz apw at h
  rw [z, show zG (1, 0, 0) = 1 from rfl] at h
  apply c0
  grind
/-- a kept place is one of both that the root tells -/
theorem kept_two {n : Nat} {m : G4} {q : P3} {w : Gi} (hq : Pt n q) (c0 : m.2.2.1 ≠ 0) (h : Kpt m q) (hw : w * w = lvG m) : HG n q (m.1 - m.2.2.2 + w) (m.2.2.1 + m.2.2.1) ∨ HG n q (m.1 - m.2.2.2 - w) (m.2.2.1 + m.2.2.1) := by
  have e := kept_e h
  have c2 : m.2.2.1 + m.2.2.1 ≠ 0 := fun z => c0 (by
    have e1 := congrArg Gi.re z
    have e2 := congrArg Gi.im z
    simp only [Gi.add_re, Gi.add_im] at e1 e2
    rw [Gi.zero_re] at e1
    rw [Gi.zero_im] at e2
    exact Gi.ext' (by rw [Gi.zero_re]; omega) (by rw [Gi.zero_im]; omega))
  rw [← hw] at e
  have f : ((m.2.2.1 + m.2.2.1) * zG q - (m.1 - m.2.2.2) * rG q - w * rG q) * ((m.2.2.1 + m.2.2.1) * zG q - (m.1 - m.2.2.2) * rG q + w * rG q) = 0 := by grind
  rcases Gi.mul_zero' f with g | g
  · exact .inl ⟨hq, by grind, fun z => c2 z.2⟩
  · exact .inr ⟨hq, by grind, fun z => c2 z.2⟩
theorem kept_sq {n : Nat} {m : G4} {q : P3} (hq : Pt n q) (c0 : m.2.2.1 ≠ 0) (h : Kpt m q) : ∃ w, croot ((lvG m).re, (lvG m).im) = some w ∧ pG w * pG w = lvG m := by
  obtain ⟨u, hu⟩ := sq_int (kept_r hq c0 h) (kept_e h).symm
  exact croot_sq hu
/-- with 0 below -/
theorem kept_low {n : Nat} {m : G4} {q : P3} (hq : Pt n q) (c0 : m.2.2.1 = 0) (nz : ¬(m.2.1 = 0 ∧ m.2.2.2 - m.1 = 0)) (h : Kpt m q) : q = (1, 0, 0) ∨ HG n q m.2.1 (m.2.2.2 - m.1) := by
  unfold Kpt apz apw at h
  rw [c0] at h
  have f : rG q * (zG q * (m.2.2.2 - m.1) - rG q * m.2.1) = 0 := by grind
  rcases Gi.mul_zero' f with g | g
  · exact .inl (hq.far (congrArg Gi.re g))
  · exact .inr ⟨hq, by grind, nz⟩
/-- the word of a ratio -/
def kdP (q : P3) : Str := if q.2.1 ≠ 0 then "spirals" else if q.1 < 0 then "swings" else if q.1 = 4 * q.2.2 then "settles" else if q.1 < 4 * q.2.2 then "winds" else "pulls"
/-- the word of a factor o over t -/
def kdF (o t : Gi) : Str := if o.nm = t.nm then "winds" else if (o * t.cj).im ≠ 0 then "spirals" else if 0 < (o * t.cj).re then "pulls" else "swings"
theorem kd_nums {n : Nat} {q : P3} {o t : Gi} (o0 : o ≠ 0) (t0 : t ≠ 0) (h : HG n q ((o + t) * (o + t)) (o * t)) :
    q.1 * (o.nm * t.nm) = q.2.2 * ((o * t.cj).re * (o.nm + t.nm) + 2 * (o.nm * t.nm)) ∧ q.2.1 * (o.nm * t.nm) = q.2.2 * ((o * t.cj).im * (o.nm - t.nm)) ∧ 0 < q.2.2 := by
  have e := h.e
  have e1 := congrArg (fun x => (x * (o * t).cj).re) e
  have e2 := congrArg (fun x => (x * (o * t).cj).im) e
  obtain ⟨a, b⟩ := o
  obtain ⟨c, d⟩ := t
  unfold zG rG Gi.cj at e1 e2
  simp only [Gi.mul_re, Gi.mul_im, Gi.add_re, Gi.add_im] at e1 e2
  refine ⟨?_, ?_, ?_⟩
  · unfold Gi.nm Gi.cj
    simp only [Gi.mul_re, Gi.mul_im]
    clear h e o0 t0 e2
    grind
  · unfold Gi.nm Gi.cj
    simp only [Gi.mul_re, Gi.mul_im]
    clear h e o0 t0 e1
    grind
  · rcases h.pt.ok with ⟨x1, x2, x3⟩ | p
    · exfalso
      have hq : q = (1, 0, 0) := h.pt.far x3
      subst hq
      rw [show zG (1, 0, 0) = 1 from rfl, show rG (1, 0, 0) = 0 from rfl] at e
      exact Gi.mul_ne o0 t0 (by grind)
    · exact p
theorem kd_of {n : Nat} {q : P3} {o t : Gi} (o0 : o ≠ 0) (t0 : t ≠ 0) (ne : o ≠ t) (h : HG n q ((o + t) * (o + t)) (o * t)) : kdP q = kdF o t := by
  obtain ⟨h1, h2, h3⟩ := kd_nums o0 t0 h
  have po := Gi.nm_pos o0
  have pt := Gi.nm_pos t0
  have pM := Int.mul_pos po pt
  have d1 : 0 < o.nm + t.nm - 2 * (o * t.cj).re := by
    have := Gi.nm_pos (show o - t ≠ 0 from fun z => ne (by grind))
    have e : (o - t).nm = o.nm + t.nm - 2 * (o * t.cj).re := by
      unfold Gi.nm Gi.cj
      simp only [Gi.sub_re, Gi.sub_im, Gi.mul_re]
      grind
    omega
  have d2 : 0 ≤ o.nm + t.nm + 2 * (o * t.cj).re := by
    have := (o + t).nm_nn
    have e : (o + t).nm = o.nm + t.nm + 2 * (o * t.cj).re := by
      unfold Gi.nm Gi.cj
      simp only [Gi.add_re, Gi.add_im, Gi.mul_re]
      grind
    omega
  have d3 : (o * t.cj).re * (o * t.cj).re + (o * t.cj).im * (o * t.cj).im = o.nm * t.nm := by
    have := Gi.nm_mul o t.cj
    rw [Gi.nm_cj] at this
    exact this
  clear h
  unfold kdP kdF
  generalize (o * t.cj).re = x at *
  generalize (o * t.cj).im = y at *
  generalize o.nm = N at *
  generalize t.nm = K at *
  obtain ⟨p, s, r⟩ := q
  simp only at h1 h2 h3
  simp only
  have four : ∀ z : Int, p * (N * K) = r * z → (p < 0 ↔ z < 0) ∧ (p = 4 * r ↔ z = 4 * (N * K)) ∧ (p < 4 * r ↔ z < 4 * (N * K)) := by
    intro z e
    generalize N * K = M at *
    have e4 : (p - 4 * r) * M = r * (z - 4 * M) := by grind
    refine ⟨⟨fun q => ?_, fun q => ?_⟩, ⟨fun q => ?_, fun q => ?_⟩, ⟨fun q => ?_, fun q => ?_⟩⟩
    · have := Int.mul_neg_of_neg_of_pos q pM
      rcases Int.lt_or_le z 0 with o | o
      · exact o
      · have := Int.mul_nonneg (Int.le_of_lt h3) o; omega
    · have := Int.mul_neg_of_pos_of_neg h3 q
      rcases Int.lt_or_le p 0 with o | o
      · exact o
      · have := Int.mul_nonneg o (Int.le_of_lt pM); omega
    · rw [q, Int.sub_self, Int.zero_mul] at e4
      rcases Int.mul_eq_zero.mp e4.symm with o | o <;> omega
    · rw [q, Int.sub_self, Int.mul_zero] at e4
      rcases Int.mul_eq_zero.mp e4 with o | o <;> omega
    · have := Int.mul_neg_of_neg_of_pos (show p - 4 * r < 0 by omega) pM
      rcases Int.lt_or_le z (4 * M) with o | o
      · exact o
      · have := Int.mul_nonneg (Int.le_of_lt h3) (show 0 ≤ z - 4 * M by omega); omega
    · have := Int.mul_neg_of_pos_of_neg h3 (show z - 4 * M < 0 by omega)
      rcases Int.lt_or_le p (4 * r) with o | o
      · exact o
      · have := Int.mul_nonneg (show 0 ≤ p - 4 * r by omega) (Int.le_of_lt pM); omega
  obtain ⟨f1, f2, f3⟩ := four _ h1
  clear four h1
  by_cases c1 : N = K
  · subst c1
    have s0 : s = 0 := by
      rw [Int.sub_self, Int.mul_zero, Int.mul_zero] at h2
      rcases Int.mul_eq_zero.mp h2 with o | o <;> omega
    rw [if_neg (by omega), if_pos rfl]
    have z1 : x * (N + N) + 2 * (N * N) = N * (2 * x + 2 * N) := by grind
    have z2 := Int.mul_nonneg (Int.le_of_lt po) (show 0 ≤ 2 * x + 2 * N by omega)
    have z3 := Int.mul_pos po (show 0 < 2 * N - 2 * x by omega)
    have z4 : N * (2 * N - 2 * x) = 4 * (N * N) - N * (2 * x + 2 * N) := by grind
    rw [if_neg (by omega), if_neg (by omega), if_pos (by omega)]
  · rw [if_neg (show ¬ N = K from c1)]
    by_cases c2 : y = 0
    · subst c2
      have s0 : s = 0 := by
        rw [Int.zero_mul, Int.mul_zero] at h2
        rcases Int.mul_eq_zero.mp h2 with o | o <;> omega
      rw [if_neg (show ¬ s ≠ 0 by omega), if_neg (show ¬ (0 : Int) ≠ 0 by omega)]
      have x0 : x ≠ 0 := fun z => by rw [z] at d3; simp at d3; omega
      rcases Int.lt_or_gt_of_ne x0 with o | o
      · have d2' : 0 < N + K + 2 * x := by
          rcases Int.lt_or_eq_of_le d2 with q | q
          · exact q
          · exfalso
            have : (N - K) * (N - K) = (N + K) * (N + K) - 4 * (N * K) := by grind
            have : N + K = -2 * x := by omega
            have : (N - K) * (N - K) = 0 := by grind
            rcases Int.mul_eq_zero.mp this with q | q <;> omega
        have := Int.mul_neg_of_neg_of_pos o d2'
        have : x * (N + K) + 2 * (N * K) = x * (N + K + 2 * x) := by grind
        rw [if_pos (by omega), if_neg (by omega)]
      · have := Int.mul_pos o d1
        have : x * (N + K) + 2 * (N * K) = x * (N + K - 2 * x) + 4 * (N * K) := by grind
        rw [if_neg (by omega), if_neg (by omega), if_neg (by omega), if_pos o]
    · have s0 : s ≠ 0 := fun z => by
        rw [z, Int.zero_mul] at h2
        rcases Int.mul_eq_zero.mp h2.symm with q | q
        · omega
        · rcases Int.mul_eq_zero.mp q with q | q <;> omega
      rw [if_pos s0, if_pos c2]

theorem w_root {T : Tk} {a b : Int} {k : KD} (hz : Cz 4000 (a, b)) (h : k (ocx (croot (a, b))) T) : sm_root [.val (.tup [.int a, .int b])] T k := by
  rw [e_root, b_root]
  walk_at "ev"
  refine w_square_size (hz.mono (by decide)) ?_
  walk_at "ev"
  have sn : Sz 8001 (cnrm (a, b)) := hz.nrm
  have n0 := nrm_nonneg (a, b)
  have sl := isq_sz n0 sn
  have sa : Sz 8001 a := hz.1.mono (by decide)
  have s1 : Sz 8002 (iMax 0 ((isq (cnrm (a, b)) + a) / 2)) := imax_sz ((sl.add sa).ediv)
  have s2 : Sz 8002 (iMax 0 ((isq (cnrm (a, b)) - a) / 2)) := imax_sz ((sl.sub sa).ediv)
  refine ⟨⟨n0, sn.mono (by decide)⟩, lit_div (by decide) (by decide), ⟨imax0_nn _, s1.mono (by decide)⟩, lit_div (by decide) (by decide), ⟨imax0_nn _, s2.mono (by decide)⟩, ?_⟩
  have t1 := isq_sz (imax0_nn _) s1
  have t2 := isq_sz (imax0_nn _) s2
  unfold croot at h
  have go : ∀ c : Int, Sz 8002 c → cfound (a, b) = (isq (iMax 0 ((isq (cnrm (a, b)) + a) / 2)), c) → sm_times [SV.val (D.tup [D.int (isq (iMax 0 ((isq (cnrm (a, b)) + a) / 2))), D.int c]), SV.val (D.tup [D.int (isq (iMax 0 ((isq (cnrm (a, b)) + a) / 2))), D.int c])] T fun x T1 =>
      match fEq x (D.tup [D.int a, D.int b]) with
      | some p => p.fst ∧ (match p.snd with | D.bl c' => if c' = true then k (D.tup [D.int (isq (iMax 0 ((isq (cnrm (a, b)) + a) / 2))), D.int c]) T1 else k D.non T1 | x => False)
      | none => False := by
    intro c hc e
    have cz : Cz 100000 (isq (iMax 0 ((isq (cnrm (a, b)) + a) / 2)), c) := ⟨t1.mono (by decide), hc.mono (by decide)⟩
    refine w_times cz cz ?_
    rintro p hp
    walk_at "ev"
    refine ⟨⟨ok_cx, ok_cx⟩, ?_⟩
    rw [e, ← hp] at h
    by_cases q : p.1 = a ∧ p.2 = b
    · rw [if_pos q]
      rw [if_pos (by ext; exact q.1; exact q.2)] at h
      exact h
    · rw [if_neg q]
      rw [if_neg (fun e => q (by rw [e]; exact ⟨rfl, rfl⟩))] at h
      exact h
  split
  · rename_i q
    exact go _ t2 (by unfold cfound; rw [if_pos q])
  · rename_i q
    exact go _ t2.neg (by unfold cfound; rw [if_neg q])
theorem nz_half {k : Nat} {a : Gi} (h : Nz (2 * k) a) : Cz k (a.re, a.im) := by
  have key : ∀ x y : Int, x * x + y * y < 2 ^ (2 * k) → Sz k x := fun x y q => by
    unfold Sz
    refine Nat.lt_of_not_le fun c => ?_
    have e1 : x * x = ((x.natAbs * x.natAbs : Nat) : Int) := by rw [Int.natAbs_mul_self]
    have e2 : 2 ^ k * 2 ^ k ≤ x.natAbs * x.natAbs := Nat.mul_le_mul c c
    have e3 : (2 : Nat) ^ (2 * k) = 2 ^ k * 2 ^ k := by rw [Nat.two_mul, Nat.pow_add]
    have e4 : 0 ≤ y * y := by
      rcases Int.le_total 0 y with o | o
      · exact Int.mul_nonneg o o
      · exact Int.mul_nonneg_of_nonpos_of_nonpos o o
    have e5 : ((2 : Int) ^ (2 * k)) = ((2 ^ (2 * k) : Nat) : Int) := by push_cast; rfl
    rw [e5, e3] at q
    omega
  unfold Nz Gi.nm at h
  show Sz k a.re ∧ Sz k a.im
  exact ⟨key a.re a.im h, key a.im a.re (by omega)⟩
theorem g4_dc {a b c d : Gi} {m : G4} : (decide (m.1 = a) && (decide (m.2.1 = b) && (decide (m.2.2.1 = c) && decide (m.2.2.2 = d)))) = decide (m = (a, b, c, d)) := by
  obtain ⟨m1, m2, m3, m4⟩ := m
  simp only [Prod.mk.injEq, Bool.decide_and]
theorem gi_dcK {a b : Gi} : (decide (a.re = b.re) && decide (a.im = b.im)) = decide (a = b) := by
  rw [← Bool.decide_and]
  exact decide_eq_decide.mpr ⟨fun ⟨x, y⟩ => Gi.ext' x y, fun e => by rw [e]; exact ⟨rfl, rfl⟩⟩
theorem g1_dc {m : G4} : (decide (m.1.re = 1) && decide (m.1.im = 0) && (decide (m.2.1.re = 0) && decide (m.2.1.im = 0) && (decide (m.2.2.1.re = 0) && decide (m.2.2.1.im = 0) && (decide (m.2.2.2.re = 1) && decide (m.2.2.2.im = 0))))) = decide (m = g1) := by
  have one : ∀ a : Gi, (decide (a.re = 1) && decide (a.im = 0)) = decide (a = 1) := fun a => by
    rw [← Bool.decide_and]
    exact decide_eq_decide.mpr ⟨fun ⟨x, y⟩ => Gi.ext' x y, fun e => by rw [e]; exact ⟨rfl, rfl⟩⟩
  rw [one, one, dec_gi, dec_gi]
  exact g4_dc
theorem w_qpG {T : Tk} {n : Nat} {z w : Gi} {k : KD} (hz : Cz n (z.re, z.im)) (hw : Cz n (w.re, w.im)) (hn : n ≤ 4000) (nz : ¬(z = 0 ∧ w = 0)) (h : ∀ q : P3, HG (2 * n + 1) q z w → k (pD q) T) : sm_quotient_place [.val (gD z), .val (gD w)] T k :=
  w_quotient_hp (z := (z.re, z.im)) (w := (w.re, w.im)) hz hw hn (fun ⟨a, b⟩ => nz ⟨Gi.eq0.mp a, Gi.eq0.mp b⟩) fun q hq => h q (HP.hg hq)
theorem w_trace {T : Tk} {f : Int} {m : G4} {k : KD} (h : k (gD (trG m)) T) : sm_trace [.val (mD f m)] T k := by
  rw [e_trace, b_trace]
  walk_at "wk"
  exact w_plusG h
theorem w_trace_place {T : Tk} {n : Nat} {m : G4} {f : Int} {k : KD} (hm : Mq n f m) (hn : n ≤ 900) (h : ∀ q, HG (2 * n + 9) q (trG m * trG m) (dtG m) → k (pD q) T) : sm_trace_place [.val (mD f m)] T k := by
  rw [e_trace_place, b_trace_place]
  walk_at "wk"
  refine w_trace ?_
  walk_at "wk"
  refine w_trace ?_
  walk_at "wk"
  have st : Nz (n + 2) (trG m) := hm.s1.add hm.s4
  have s2 : Nz (2 * (n + 2)) (trG m * trG m) := (st.mul st).mono (by omega)
  have sd : Nz (2 * (n + 2)) (dtG m) := by
    have e : dtG m = m.1 * m.2.2.2 + -(m.2.1 * m.2.2.1) := by unfold dtG; grind
    rw [e]
    exact (Nz.add (hm.s1.mul hm.s4) (hm.s2.mul hm.s3).neg).mono (by omega)
  refine w_timesG st.cz st.cz (by omega) (by omega) ?_
  walk_at "wk"
  refine w_determinant hm.s1 hm.s2 hm.s3 hm.s4 (by omega) ?_
  walk_at "wk"
  exact w_qpG (nz_half s2) (nz_half sd) (by omega) (fun z => hm.dt z.2) fun q hq => h q ⟨hq.pt.mono (by omega), hq.e, hq.nz⟩
theorem w_plain_kind {T : Tk} {n : Nat} {m : G4} {k : KD} (hm : Mq n 0 m) (hn : n ≤ 900) (h1 : m = g1 → k (.str "stays") T) (h : m ≠ g1 → ∀ q, HG (2 * n + 9) q (trG m * trG m) (dtG m) → k (.str (kdP q)) T) : sm_plain_kind [.val (mD 0 m)] T k := by
  rw [e_plain_kind, b_plain_kind, k_STAYS]
  walk_at "wk"
  rw [g1_dc]
  refine iteB_of (fun e => ?_) (fun e => ?_)
  · walk_at "wk"
    exact h1 (of_decide_eq_true e)
  · walk_at "wk"
    refine w_trace_place hm hn fun q hq => ?_
    have h := h (of_decide_eq_false e) q hq
    unfold kdP at h
    walk_at "wk"
    refine iteB_of (fun c => ?_) (fun c => ?_)
    case refine_2 =>
      walk_at "wk"
      rw [if_pos (by simpa using c)] at h
      exact h
    rw [if_neg (by simpa using c)] at h
    walk_at "wk"
    refine iteB_of (fun c => ?_) (fun c => ?_)
    · walk_at "wk"
      rw [if_pos (by simpa using c)] at h
      exact h
    rw [if_neg (by simpa using c)] at h
    walk_at "wk"
    refine ⟨lit_mul (by decide), ?_⟩
    refine iteB_of (fun c => ?_) (fun c => ?_)
    · walk_at "wk"
      rw [if_pos (by simpa using c)] at h
      exact h
    rw [if_neg (by simpa using c)] at h
    walk_at "wk"
    refine ⟨lit_mul (by decide), ?_⟩
    refine iteB_of (fun c => ?_) (fun c => ?_)
    · walk_at "wk"
      rw [if_pos (by simpa using c)] at h
      exact h
    rw [if_neg (by simpa using c)] at h
    walk_at "wk"
    exact h
/-- the word of a plain map with the ratio q -/
def kdM (m : G4) (q : P3) : Str := if m = g1 then "stays" else kdP q
def stD (w : Str) : D := if w = "stays" then .str "all" else if w = "settles" then .int 1 else .int 2
theorem kdM_in (m : G4) (q : P3) : kdM m q ∈ (["stays", "spirals", "swings", "settles", "winds", "pulls"] : List Str) := by
  unfold kdM kdP
  split
  · simp
  split
  · simp
  split
  · simp
  split
  · simp
  split <;> simp
theorem w_kindP {T : Tk} {n : Nat} {m : G4} {q : P3} {l : Nat} {k : KD} (hm : Mq n 0 m) (hn : n ≤ 900) (hq : HG l q (trG m * trG m) (dtG m)) (h : k (.str (kdM m q)) T) : sm_kind [.val (mD 0 m)] T k := by
  rw [e_kind, b_kind]
  walk_at "wk"
  unfold kdM at h
  refine w_plain_kind hm hn (fun e => ?_) (fun e q' hq' => ?_)
  · rw [if_pos e] at h
    exact h
  · obtain rfl := hq.uniq hq'
    rw [if_neg e] at h
    exact h
theorem w_kind_ofP {T : Tk} {n : Nat} {m : G4} {q : P3} {l : Nat} {k : KD} (hm : Mq n 0 m) (hn : n ≤ 900) (hq : HG l q (trG m * trG m) (dtG m)) (h : k (.str (kdM m q)) T) : sm_kind_of [.val (mD 0 m)] T k := by
  rw [e_kind_of, b_kind_of]
  walk_at "wk"
  refine w_check_map hm (by omega) ?_
  walk_at "wk"
  exact w_kindP hm hn hq h
theorem w_staying {T : Tk} {n : Nat} {m : G4} {q : P3} {l : Nat} {k : KD} (hm : Mq n 0 m) (hn : n ≤ 900) (hq : HG l q (trG m * trG m) (dtG m)) (h : k (stD (kdM m q)) T) : sm_staying [.val (mD 0 m)] T k := by
  rw [e_staying, b_staying]
  walk_at "wk"
  refine w_kind_ofP hm hn hq ?_
  have hi := kdM_in m q
  generalize kdM m q = w at *
  unfold stD at h
  walk_at "wk"
  by_cases e1 : w = "stays"
  · rw [if_pos e1] at h
    refine iteB_p (decide_eq_true e1) ?_
    walk_at "wk"
    exact h
  rw [if_neg e1] at h
  refine iteB_n (decide_eq_false e1) ?_
  walk_at "wk"
  refine iteB_n (decide_eq_false fun e => by rw [e] at hi; exact absurd hi (by decide +kernel)) ?_
  walk_at "wk"
  by_cases e2 : w = "settles"
  · rw [if_pos e2] at h
    refine iteB_p (decide_eq_true e2) ?_
    walk_at "wk"
    exact h
  rw [if_neg e2] at h
  refine iteB_n (decide_eq_false e2) ?_
  walk_at "wk"
  exact h
abbrev l3 (q : P3) : List Int := [q.1, q.2.1, q.2.2]
/-- two places in their order -/
def ordT (p q : P3) : D := if HT.lexLt (l3 p) (l3 q) = true then .tup [pD p, pD q] else .tup [pD q, pD p]
theorem ht_lex : ∀ {a b : List Int}, a.length = b.length → HT.lexLt a b = lexLt a b
  | [], [], _ => rfl
  | [], _ :: _, h => by simp at h
  | _ :: _, [], h => by simp at h
  | x :: a, y :: b, h => by
    rw [HT.lexLt_cons, lexLt, ht_lex (a := a) (b := b) (by simpa using h)]
    by_cases e : x = y
    · subst e
      rw [if_pos rfl, if_neg (by omega), if_neg (by omega)]
    · rw [if_neg e]
      by_cases c : x < y
      · rw [if_pos c, decide_eq_true c]
      · rw [if_neg c, if_pos (by omega), decide_eq_false c]
theorem l3_inj {p q : P3} (h : l3 p = l3 q) : p = q := by
  simp only [List.cons.injEq, and_true] at h
  exact Prod.ext h.1 (Prod.ext h.2.1 h.2.2)
theorem ord_isort {p q : P3} (ne : p ≠ q) : D.tup ((isort [l3 p, l3 q]).map tI) = ordT p q := by
  unfold ordT
  rw [ht_lex (a := l3 p) (b := l3 q) rfl, isort2]
  cases c : lexLt (l3 p) (l3 q) with
  | true =>
    rw [if_pos rfl, if_neg (by rw [lexLt_asym (a := l3 p) (b := l3 q) rfl c]; decide)]
    rfl
  | false =>
    cases c2 : lexLt (l3 q) (l3 p) with
    | true => rfl
    | false => exact absurd (l3_inj (lexLt_anti (a := l3 p) (b := l3 q) rfl c c2)) ne
theorem ord_comm {p q : P3} (ne : p ≠ q) : ordT p q = ordT q p := by
  rw [← ord_isort ne, ← ord_isort (Ne.symm ne)]
  rw [isort_p (d := 3) (l := [l3 p, l3 q]) (m := [l3 q, l3 p]) (by intro y hy; simp only [List.mem_cons, List.not_mem_nil, or_false] at hy; rcases hy with rfl | rfl <;> rfl) (List.Perm.swap _ _ _)]
theorem ord_ded {p q : P3} : D.tup ((isort (dedL [l3 p, l3 q])).map tI) = if p = q then D.tup [pD p] else ordT p q := by
  by_cases e : p = q
  · subst e
    rw [if_pos rfl]
    unfold dedL
    rw [if_pos (by simp)]
    rfl
  · rw [if_neg e]
    unfold dedL
    rw [if_neg (by simp only [List.mem_cons, List.not_mem_nil, or_false]; exact fun z => e (l3_inj z))]
    exact ord_isort e
theorem nz_dif {n : Nat} {m : G4} (h : N4 n m) : Nz (n + 2) (m.1 - m.2.2.2) := by
  rw [show m.1 - m.2.2.2 = m.1 + -m.2.2.2 by grind]
  exact Nz.add h.s1 h.s4.neg
theorem nz_lv {n : Nat} {m : G4} (h : N4 n m) : Nz (2 * n + 8) (lvG m) := by
  have d := nz_dif h
  have b := h.s2.mul h.s3
  unfold lvG
  exact Nz.mono (Nz.add (Nz.mono (d.mul d) (show _ ≤ 2 * n + 6 by omega)) (Nz.mono (Nz.add (Nz.add (Nz.add b b) (b.mono (Nat.le_add_right _ _))) (b.mono (by omega))) (by omega))) (by omega)
theorem nz_root {n : Nat} {l w : Gi} (h : Nz (2 * n + 8) l) (e : w * w = l) : Nz (n + 4) w := by
  unfold Nz at *
  rw [← e, Gi.nm_mul] at h
  have p := w.nm_nn
  rcases Int.lt_or_le w.nm (2 ^ (n + 4)) with q | q
  · exact q
  · exfalso
    have := Int.mul_le_mul q q (Int.le_of_lt (Int.pow_pos (by decide))) p
    have e3 : (2 : Int) ^ (2 * n + 8) = 2 ^ (n + 4) * 2 ^ (n + 4) := by rw [← Int.pow_add]; congr 1; omega
    omega
theorem dbl_ne {c : Gi} (c0 : c ≠ 0) : c + c ≠ 0 := fun z => c0 (by
  have e1 := congrArg Gi.re z
  have e2 := congrArg Gi.im z
  simp only [Gi.add_re, Gi.add_im] at e1 e2
  rw [Gi.zero_re] at e1
  rw [Gi.zero_im] at e2
  exact Gi.ext' (by rw [Gi.zero_re]; omega) (by rw [Gi.zero_im]; omega))
theorem tD2 {p q : P3} : TupsD [l3 p, l3 q] := ⟨by simp, 3, by decide, fun y hy => by
  simp only [List.mem_cons, List.not_mem_nil, or_false] at hy
  rcases hy with rfl | rfl <;> rfl⟩
theorem lv_tr (m : G4) : trG m * trG m - scG 4 (dtG m) = lvG m := by
  have e : scG 4 (dtG m) = dtG m + dtG m + dtG m + dtG m := Gi.ext' (by simp only [scG, Gi.add_re]; omega) (by simp only [scG, Gi.add_im]; omega)
  rw [e]
  unfold trG lvG dtG
  grind
theorem sc2 (a : Gi) : scG 2 a = a + a := Gi.ext' (by simp only [scG, Gi.add_re]; omega) (by simp only [scG, Gi.add_im]; omega)
theorem w_plain_kept {T : Tk} {n : Nat} {m : G4} {k : KD} (hm : Mq n 0 m) (hn : n ≤ 900)
    (h1 : m.2.2.1 = 0 → m.1 = m.2.2.2 → k (.tup [pD (1, 0, 0)]) T)
    (h2 : m.2.2.1 = 0 → m.1 ≠ m.2.2.2 → ∀ q, HG (2 * n + 9) q m.2.1 (m.2.2.2 - m.1) → q ≠ (1, 0, 0) → k (ordT (1, 0, 0) q) T)
    (h3 : m.2.2.1 ≠ 0 → croot ((lvG m).re, (lvG m).im) = none → k (.tup []) T)
    (h4 : m.2.2.1 ≠ 0 → ∀ w, croot ((lvG m).re, (lvG m).im) = some w → ∀ f g, HG (2 * n + 20) f (m.1 - m.2.2.2 + pG w) (m.2.2.1 + m.2.2.1) → HG (2 * n + 20) g (m.1 - m.2.2.2 - pG w) (m.2.2.1 + m.2.2.1) → k (if f = g then .tup [pD f] else ordT f g) T) :
    sm_plain_kept [.val (mD 0 m)] T k := by
  rw [e_plain_kept, b_plain_kept, k_ZERO, k_FAR]
  walk_at "wk"
  rw [dec_gi]
  by_cases c0 : m.2.2.1 = 0
  · refine iteB_p (decide_eq_true c0) ?_
    walk_at "wk"
    rw [gi_dcK]
    by_cases ad : m.1 = m.2.2.2
    · refine iteB_p (decide_eq_true ad) ?_
      walk_at "wk"
      exact h1 c0 ad
    · refine iteB_n (decide_eq_false ad) ?_
      walk_at "wk"
      refine w_minusG ?_
      walk_at "wk"
      have nz : m.2.2.2 - m.1 ≠ 0 := fun z => ad (by grind)
      have cz : Nz (2 * (n + 2)) (m.2.2.2 - m.1) := by
        rw [show m.2.2.2 - m.1 = m.2.2.2 + -m.1 by grind]
        exact (Nz.add hm.s4 hm.s1.neg).mono (by omega)
      refine w_qpG (z := m.2.1) (nz_half ((hm.s2.mono (by omega) : Nz (2 * (n + 2)) m.2.1))) (nz_half cz) (by omega) (fun z => nz z.2) fun q hq => ?_
      have hq : HG (2 * n + 9) q m.2.1 (m.2.2.2 - m.1) := ⟨hq.pt.mono (by omega), hq.e, hq.nz⟩
      have ne : q ≠ (1, 0, 0) := fun z => by
        have e := hq.e
        rw [z, show zG (1, 0, 0) = 1 from rfl, show rG (1, 0, 0) = 0 from rfl] at e
        exact nz (by grind)
      walk_at "wk"
      refine ⟨tD2 (p := (1, 0, 0)) (q := q), ?_⟩
      rw [ord_isort (p := (1, 0, 0)) (q := q) (Ne.symm ne)]
      exact h2 c0 ad q hq ne
  · refine iteB_n (decide_eq_false c0) ?_
    walk_at "wk"
    have st : Nz (n + 2) (trG m) := hm.s1.add hm.s4
    refine w_trace ?_
    walk_at "wk"
    refine w_trace ?_
    walk_at "wk"
    refine w_timesG st.cz st.cz (by omega) (by omega) ?_
    walk_at "wk"
    refine w_determinant hm.s1 hm.s2 hm.s3 hm.s4 (by omega) ?_
    walk_at "wk"
    have sd : Nz (2 * n + 2) (dtG m) := by
      have e : dtG m = m.1 * m.2.2.2 + -(m.2.1 * m.2.2.1) := by unfold dtG; grind
      rw [e]
      exact (Nz.add (hm.s1.mul hm.s4) (hm.s2.mul hm.s3).neg).mono (by omega)
    refine w_scaledG (m := 3) sd.cz (by unfold Sz; decide) (by omega) (by omega) ?_
    walk_at "wk"
    refine w_minusG ?_
    rw [lv_tr]
    walk_at "wk"
    have sl : Nz (2 * n + 8) (lvG m) := nz_lv hm.n4
    have sz : Cz 4000 ((lvG m).re, (lvG m).im) := Cz.mono sl.cz (by omega)
    refine w_root (a := (lvG m).re) (b := (lvG m).im) sz ?_
    cases hr : croot ((lvG m).re, (lvG m).im) with
    | none =>
      rw [show ocx none = .non from rfl]
      walk_at "wk"
      exact h3 c0 hr
    | some w =>
      rw [show ocx (some w) = gD (pG w) from rfl]
      have sw := nz_root sl (croot_isq hr)
      have sd := nz_dif hm.n4
      have c2 : m.2.2.1 + m.2.2.1 ≠ 0 := dbl_ne c0
      have s2 : Nz (2 * (n + 6)) (m.2.2.1 + m.2.2.1) := (Nz.add hm.s3 hm.s3).mono (by omega)
      have sp : Nz (2 * (n + 6)) (m.1 - m.2.2.2 + pG w) := (Nz.add (sd.mono (by omega)) sw).mono (by omega)
      have sm : Nz (2 * (n + 6)) (m.1 - m.2.2.2 - pG w) := by
        rw [show m.1 - m.2.2.2 - pG w = m.1 - m.2.2.2 + -pG w by grind]
        exact (Nz.add (sd.mono (by omega)) sw.neg).mono (by omega)
      walk_at "wk"
      refine w_minusG ?_
      walk_at "wk"
      refine w_plusG ?_
      walk_at "wk"
      refine w_minusG ?_
      walk_at "wk"
      refine w_minusG ?_
      walk_at "wk"
      refine w_scaledG (m := 2) hm.s3.cz sz2x (by omega) (by omega) ?_
      rw [sc2]
      walk_at "wk"
      refine w_qpG (nz_half sp) (nz_half s2) (by omega) (fun z => c2 z.2) fun f hf => ?_
      walk_at "wk"
      refine w_scaledG (m := 2) hm.s3.cz sz2x (by omega) (by omega) ?_
      rw [sc2]
      walk_at "wk"
      refine w_qpG (nz_half sm) (nz_half s2) (by omega) (fun z => c2 z.2) fun g hg => ?_
      walk_at "wk"
      refine ⟨tD2 (p := f) (q := g), ?_⟩
      rw [ord_ded (p := f) (q := g)]
      exact h4 c0 w hr f g ⟨hf.pt.mono (by omega), hf.e, hf.nz⟩ ⟨hg.pt.mono (by omega), hg.e, hg.nz⟩
/-- two kept places: they are what plain_kept tells -/
theorem kept_ne {n : Nat} {m : G4} (hm : Mq n 0 m) (ne : m ≠ g1) (c0 : m.2.2.1 = 0) : ¬(m.2.1 = 0 ∧ m.2.2.2 - m.1 = 0) := fun ⟨b0, d0⟩ => ne (by
  refine hm.fm.uniq (m' := g1) (l := 1) ⟨Mq.g1.mp, ⟨m.1, fun z => ?_, ?_⟩, Mq.g1.s1, Mq.g1.s2, Mq.g1.s3, Mq.g1.s4⟩
  · apply hm.dt
    unfold dtG
    rw [c0, z]
    grind
  · obtain ⟨a, b, c, d⟩ := m
    simp only at b0 d0 c0 ⊢
    unfold scl g1
    simp only [Prod.mk.injEq]
    refine ⟨?_, ?_, ?_, ?_⟩ <;> grind)
theorem w_staying_kept {T : Tk} {n : Nat} {m : G4} {k : KD} (hm : Mq n 0 m) (hn : n ≤ 900) (e : m ≠ g1) {q : P3} {l : Nat} (hq : HG l q (trG m * trG m) (dtG m)) (h : sm_plain_kept [.val (mD 0 m)] T k) : sm_staying_places [.val (mD 0 m)] T k := by
  rw [e_staying_places, b_staying_places, k_STAYS]
  walk_at "wk"
  refine w_check_map hm (by omega) ?_
  walk_at "wk"
  refine w_staying hm hn hq ?_
  have hs : stD (kdM m q) = .int 1 ∨ stD (kdM m q) = .int 2 := by
    unfold stD
    rw [if_neg ?_]
    · split
      · exact .inl rfl
      · exact .inr rfl
    · unfold kdM kdP
      rw [if_neg e]
      split
      · decide +kernel
      split
      · decide +kernel
      split
      · decide +kernel
      split <;> decide +kernel
  rcases hs with hs | hs <;> rw [hs]
  · walk_at "wk"
    refine ⟨⟨rfl, by decide +kernel⟩, iteB_n rfl ?_⟩
    walk_at "wk"
    exact h
  · walk_at "wk"
    refine ⟨⟨rfl, by decide +kernel⟩, iteB_n rfl ?_⟩
    walk_at "wk"
    exact h
/-- two unlike places are kept: these are told -/
theorem kept_pair {n l : Nat} {m : G4} {p q f g : P3} {w : Cx2} {N : Nat} (hp : Pt n p) (hq : Pt l q) (c0 : m.2.2.1 ≠ 0) (kp : Kpt m p) (kq : Kpt m q) (ne : p ≠ q) (hw : croot ((lvG m).re, (lvG m).im) = some w)
    (hf : HG N f (m.1 - m.2.2.2 + pG w) (m.2.2.1 + m.2.2.1)) (hg : HG N g (m.1 - m.2.2.2 - pG w) (m.2.2.1 + m.2.2.1)) : (if f = g then D.tup [pD f] else ordT f g) = ordT p q := by
  have e := croot_isq hw
  rcases kept_two hp c0 kp e with h1 | h1
  · obtain rfl := hf.uniq h1
    rcases kept_two hq c0 kq e with h2 | h2
    · exact absurd (h1.uniq h2) ne
    · obtain rfl := hg.uniq h2
      rw [if_neg ne]
  · obtain rfl := hg.uniq h1
    rcases kept_two hq c0 kq e with h2 | h2
    · obtain rfl := hf.uniq h2
      rw [if_neg (Ne.symm ne), ord_comm (Ne.symm ne)]
    · exact absurd (h1.uniq h2) ne
theorem w_plain_kept2 {T : Tk} {n a b : Nat} {m : G4} {p q : P3} {k : KD} (hm : Mq n 0 m) (hn : n ≤ 900) (e : m ≠ g1) (hp : Pt a p) (hq : Pt b q) (kp : Kpt m p) (kq : Kpt m q) (ne : p ≠ q) (h : k (ordT p q) T) : sm_plain_kept [.val (mD 0 m)] T k := by
  refine w_plain_kept hm hn (fun c0 ad => ?_) (fun c0 ad z hz zf => ?_) (fun c0 hr => ?_) (fun c0 w hw f g hf hg => ?_)
  · exfalso
    have nz := kept_ne hm e c0
    have far : ∀ {l : Nat} {z : P3}, Pt l z → Kpt m z → z = (1, 0, 0) := fun {l z} hz kz => by
      rcases kept_low hz c0 nz kz with o | o
      · exact o
      · have x := o.e
        rw [show m.2.2.2 - m.1 = 0 by rw [ad]; grind] at x nz
        have b0 : m.2.1 ≠ 0 := fun y => nz ⟨y, rfl⟩
        have r0 : rG z = 0 := by
          rcases Gi.mul_zero' (show rG z * m.2.1 = 0 by rw [← x]; grind) with o | o
          · exact o
          · exact absurd o b0
        exact hz.far (congrArg Gi.re r0)
    exact ne ((far hp kp).trans (far hq kq).symm)
  · have nz := kept_ne hm e c0
    rcases kept_low hp c0 nz kp with o1 | o1
    · subst o1
      rcases kept_low hq c0 nz kq with o2 | o2
      · exact absurd o2.symm ne
      · obtain rfl := hz.uniq o2
        exact h
    · obtain rfl := hz.uniq o1
      rcases kept_low hq c0 nz kq with o2 | o2
      · subst o2
        rw [ord_comm ne] at h
        exact h
      · exact absurd (hz.uniq o2) ne
  · obtain ⟨w, hw, _⟩ := kept_sq hp c0 kp
    rw [hr] at hw
    cases hw
  · rw [kept_pair hp hq c0 kp kq ne hw hf hg]
    exact h
theorem w_plain_kept1 {T : Tk} {n a : Nat} {m : G4} {p : P3} {k : KD} (hm : Mq n 0 m) (hn : n ≤ 900) (e : m ≠ g1) (hp : Pt a p) (kp : Kpt m p) (lv : lvG m = 0) (h : k (.tup [pD p]) T) : sm_plain_kept [.val (mD 0 m)] T k := by
  have nz : m.2.2.1 = 0 → m.1 = m.2.2.2 := fun c0 => by
    unfold lvG at lv
    rw [c0] at lv
    rcases Gi.mul_zero' (show (m.1 - m.2.2.2) * (m.1 - m.2.2.2) = 0 by grind) with o | o <;> grind
  refine w_plain_kept hm hn (fun c0 ad => ?_) (fun c0 ad z hz zf => absurd (nz c0) ad) (fun c0 hr => ?_) (fun c0 w hw f g hf hg => ?_)
  · have nz := kept_ne hm e c0
    rcases kept_low hp c0 nz kp with o | o
    · subst o
      exact h
    · have x := o.e
      rw [show m.2.2.2 - m.1 = 0 by rw [ad]; grind] at x nz
      have b0 : m.2.1 ≠ 0 := fun y => nz ⟨y, rfl⟩
      have r0 : rG p = 0 := by
        rcases Gi.mul_zero' (show rG p * m.2.1 = 0 by rw [← x]; grind) with o | o
        · exact o
        · exact absurd o b0
      have := hp.far (congrArg Gi.re r0)
      subst this
      exact h
  · obtain ⟨w, hw, _⟩ := kept_sq hp c0 kp
    rw [hr] at hw
    cases hw
  · have w0 := croot_isq hw
    rw [lv] at w0
    have w1 : pG w = 0 := (Gi.mul_zero' w0).elim id id
    rw [w1] at hf hg
    have hg : HG (2 * n + 20) g (m.1 - m.2.2.2 + 0) (m.2.2.1 + m.2.2.1) := by
      rw [show m.1 - m.2.2.2 + 0 = m.1 - m.2.2.2 - 0 by grind]
      exact hg
    obtain rfl := hf.uniq hg
    rw [if_pos rfl]
    rcases kept_two hp c0 kp (w := 0) (by rw [lv]; grind) with o | o
    · obtain rfl := hf.uniq o
      exact h
    · rw [show m.1 - m.2.2.2 - 0 = m.1 - m.2.2.2 + 0 by grind] at o
      obtain rfl := hf.uniq o
      exact h

/-! a map as another one sees it -/
def Cnj (m D : G4) : G4 := Pr 0 (Pr 0 m D) (Bk 0 m)
theorem flm0 (m : G4) : flm 0 m = m := rfl
theorem tr_scl (e : Gi) (m : G4) : trG (scl e m) = e * trG m := by unfold trG scl; grind
theorem lv_scl (e : Gi) (m : G4) : lvG (scl e m) = e * e * lvG m := by unfold lvG scl; grind
theorem cj_tr (m : G4) (o t : Gi) : trG (Cnj m (o, 0, 0, t)) = dtG m * (o + t) := by
  obtain ⟨a, b, c, d⟩ := m
  simp only [Cnj, Pr, mulm, flm, fl, Bk, adjm, trG, dtG, Int.reduceEq, if_false, reduceIte]
  grind
theorem cj_dt (m : G4) (o t : Gi) : dtG (Cnj m (o, 0, 0, t)) = dtG m * dtG m * (o * t) := by
  obtain ⟨a, b, c, d⟩ := m
  simp only [Cnj, Pr, mulm, flm, fl, Bk, adjm, dtG, Int.reduceEq, if_false, reduceIte]
  grind
theorem cj_lv2 (m : G4) (s : Gi) : lvG (Cnj m (1, s, 0, 1)) = 0 := by
  obtain ⟨a, b, c, d⟩ := m
  simp only [Cnj, Pr, mulm, flm, fl, Bk, adjm, lvG, Int.reduceEq, if_false, reduceIte]
  grind
/-- the images of 0 and of the far place are kept -/
theorem cj_kept0 {n : Nat} {m : G4} {o t : Gi} {p : P3} (h : Led n 0 m (0, 0, 1) p) : Kpt (Cnj m (o, 0, 0, t)) p := by
  have e := HG.e h
  rw [show apz m (fl 0 (zG (0, 0, 1))) (rG (0, 0, 1)) = m.2.1 by unfold apz; rw [show fl 0 (zG (0, 0, 1)) = 0 from rfl, show rG (0, 0, 1) = 1 from rfl]; grind,
    show apw m (fl 0 (zG (0, 0, 1))) (rG (0, 0, 1)) = m.2.2.2 by unfold apw; rw [show fl 0 (zG (0, 0, 1)) = 0 from rfl, show rG (0, 0, 1) = 1 from rfl]; grind] at e
  unfold Kpt apz apw
  generalize zG p = z at *
  generalize rG p = r at *
  obtain ⟨a, b, c, d⟩ := m
  simp only [Cnj, Pr, mulm, flm, fl, Bk, adjm, Int.reduceEq, if_false, reduceIte] at e ⊢
  clear h
  grind
theorem cj_kept1 {n : Nat} {m : G4} {o t : Gi} {p : P3} (h : Led n 0 m (1, 0, 0) p) : Kpt (Cnj m (o, 0, 0, t)) p := by
  have e := HG.e h
  rw [show apz m (fl 0 (zG (1, 0, 0))) (rG (1, 0, 0)) = m.1 by unfold apz; rw [show fl 0 (zG (1, 0, 0)) = 1 from rfl, show rG (1, 0, 0) = 0 from rfl]; grind,
    show apw m (fl 0 (zG (1, 0, 0))) (rG (1, 0, 0)) = m.2.2.1 by unfold apw; rw [show fl 0 (zG (1, 0, 0)) = 1 from rfl, show rG (1, 0, 0) = 0 from rfl]; grind] at e
  unfold Kpt apz apw
  generalize zG p = z at *
  generalize rG p = r at *
  obtain ⟨a, b, c, d⟩ := m
  simp only [Cnj, Pr, mulm, flm, fl, Bk, adjm, Int.reduceEq, if_false, reduceIte] at e ⊢
  clear h
  grind
theorem cj_kept2 {n : Nat} {m : G4} {s : Gi} {p : P3} (h : Led n 0 m (1, 0, 0) p) : Kpt (Cnj m (1, s, 0, 1)) p := by
  have e := HG.e h
  rw [show apz m (fl 0 (zG (1, 0, 0))) (rG (1, 0, 0)) = m.1 by unfold apz; rw [show fl 0 (zG (1, 0, 0)) = 1 from rfl, show rG (1, 0, 0) = 0 from rfl]; grind,
    show apw m (fl 0 (zG (1, 0, 0))) (rG (1, 0, 0)) = m.2.2.1 by unfold apw; rw [show fl 0 (zG (1, 0, 0)) = 1 from rfl, show rG (1, 0, 0) = 0 from rfl]; grind] at e
  unfold Kpt apz apw
  generalize zG p = z at *
  generalize rG p = r at *
  obtain ⟨a, b, c, d⟩ := m
  simp only [Cnj, Pr, mulm, flm, fl, Bk, adjm, Int.reduceEq, if_false, reduceIte] at e ⊢
  clear h
  grind
/-- when it is the map that stays -/
theorem cj_stays {m : G4} {o t e : Gi} (d0 : dtG m ≠ 0) (h : Cnj m (o, 0, 0, t) = scl e g1) : o = t := by
  have x := cj_tr m o t
  have y := cj_dt m o t
  rw [h, tr_scl] at x
  rw [h, dt_scl, show dtG g1 = 1 by decide +kernel] at y
  rw [show trG g1 = 1 + 1 from rfl] at x
  have z : dtG m * dtG m * ((o - t) * (o - t)) = 0 := by grind
  rcases Gi.mul_zero' z with q | q
  · exact absurd q (Gi.mul_ne d0 d0)
  · have := (Gi.mul_zero' q).elim id id
    grind
theorem cj_stays2 {m : G4} {s e : Gi} (d0 : dtG m ≠ 0) (h : Cnj m (1, s, 0, 1) = scl e g1) : s = 0 := by
  obtain ⟨a, b, c, d⟩ := m
  simp only [Cnj, Pr, mulm, flm, fl, Bk, adjm, scl, g1, Prod.mk.injEq, Int.reduceEq, if_false, reduceIte] at h
  unfold dtG at d0
  simp only at d0
  obtain ⟨h1, h2, h3, h4⟩ := h
  have x1 : s * (a * a) = 0 := by grind
  have x2 : s * (c * c) = 0 := by grind
  rcases Gi.mul_zero' x1 with q | q
  · exact q
  · rcases Gi.mul_zero' x2 with r | r
    · exact r
    · exfalso
      have a0 := (Gi.mul_zero' q).elim id id
      have c0 := (Gi.mul_zero' r).elim id id
      apply d0
      rw [a0, c0]
      grind
theorem cj_same {n : Nat} {m Y : G4} {o e : Gi} (hY : Mq n 0 Y) (o0 : o ≠ 0) (d0 : dtG m ≠ 0) (h : Cnj m (o, 0, 0, o) = scl e Y) : Y = g1 := by
  have e0 : e ≠ 0 := fun z => by
    have y := cj_dt m o o
    rw [h, z, dt_scl] at y
    exact Gi.mul_ne (Gi.mul_ne d0 d0) (Gi.mul_ne o0 o0) (by rw [← y]; grind)
  refine mp_uniq (c := e) (c' := dtG m * o) hY.mp Mq.g1.mp e0 (Gi.mul_ne d0 o0) ?_
  rw [← h]
  obtain ⟨a, b, c, d⟩ := m
  simp only [Cnj, Pr, mulm, flm, fl, Bk, adjm, scl, g1, dtG, Prod.mk.injEq, Int.reduceEq, if_false, reduceIte]
  refine ⟨?_, ?_, ?_, ?_⟩ <;> grind
/-- what staying_places may tell -/
def KPl (P : D) : Prop := P = .non ∨ P = .tup [] ∨ (∃ a, P = .tup [pD a] ∧ Pt 1900 a) ∨ ∃ a b, P = .tup [pD a, pD b] ∧ Pt 1900 a ∧ Pt 1900 b
theorem kpl_ord {a b : P3} (ha : Pt 1900 a) (hb : Pt 1900 b) : KPl (ordT a b) := by
  unfold ordT
  split
  · exact .inr (.inr (.inr ⟨a, b, rfl, ha, hb⟩))
  · exact .inr (.inr (.inr ⟨b, a, rfl, hb, ha⟩))
theorem qp_r {n : Nat} {q : P3} {z w : Gi} (w0 : w ≠ 0) (h : HG n q z w) : 0 < q.2.2 ∧ rG q ≠ 0 := by
  have r0 : rG q ≠ 0 := fun r => by
    have e := h.e
    have := h.pt.far (congrArg Gi.re r)
    subst this
    rw [r, show zG (1, 0, 0) = 1 from rfl] at e
    exact w0 (by grind)
  refine ⟨?_, r0⟩
  have := h.pt.nn
  rcases Int.lt_or_eq_of_le this with o | o
  · exact o
  · exact absurd (show rG q = 0 from Gi.ext' o.symm rfl) r0
theorem kd_settles {n : Nat} {q : P3} {m : G4} (d0 : dtG m ≠ 0) (h : HG n q (trG m * trG m) (dtG m)) : kdP q = "settles" ↔ lvG m = 0 := by
  obtain ⟨rp, r0⟩ := qp_r d0 h
  have e := h.e
  have x := lv_tr m
  rw [show scG 4 (dtG m) = dtG m + dtG m + dtG m + dtG m from Gi.ext' (by simp only [scG, Gi.add_re]; omega) (by simp only [scG, Gi.add_im]; omega)] at x
  have key : (q.2.1 = 0 ∧ q.1 = 4 * q.2.2) ↔ lvG m = 0 := by
    have q4 : (q.2.1 = 0 ∧ q.1 = 4 * q.2.2) ↔ zG q = rG q + rG q + rG q + rG q := by
      unfold zG rG
      constructor
      · rintro ⟨a, b⟩
        exact Gi.ext' (by simp only [Gi.add_re]; omega) (by simp only [Gi.add_im]; omega)
      · intro z
        have a := congrArg Gi.re z
        have b := congrArg Gi.im z
        simp only [Gi.add_re, Gi.add_im] at a b
        omega
    rw [q4]
    constructor
    · intro z
      rw [z] at e
      refine (Gi.mul_zero' (show rG q * lvG m = 0 from ?_)).resolve_left r0
      rw [← x]
      generalize rG q = r at *
      generalize dtG m = d at *
      generalize trG m * trG m = t at *
      grind
    · intro z
      rw [z] at x
      refine Gi.cancel d0 ?_
      generalize rG q = r at *
      generalize zG q = y at *
      generalize dtG m = d at *
      generalize trG m * trG m = t at *
      grind
  rw [← key]
  unfold kdP
  by_cases s0 : q.2.1 = 0
  · rw [if_neg (by omega)]
    by_cases p0 : q.1 < 0
    · rw [if_pos p0]
      exact ⟨fun z => absurd z (by decide +kernel), fun z => by omega⟩
    · rw [if_neg p0]
      by_cases p4 : q.1 = 4 * q.2.2
      · rw [if_pos p4]
        exact ⟨fun _ => ⟨s0, p4⟩, fun _ => rfl⟩
      · rw [if_neg p4]
        refine ⟨fun z => ?_, fun z => absurd z.2 p4⟩
        split at z
        · exact absurd z (by decide +kernel)
        · exact absurd z (by decide +kernel)
  · rw [if_pos s0]
    exact ⟨fun z => absurd z (by decide +kernel), fun z => absurd z.1 s0⟩
theorem kd_not_stays (q : P3) : kdP q ≠ "stays" := by
  unfold kdP
  split
  · decide +kernel
  split
  · decide +kernel
  split
  · decide +kernel
  split <;> decide +kernel
theorem st_many {n : Nat} {q : P3} {m : G4} (ne : m ≠ g1) (d0 : dtG m ≠ 0) (h : HG n q (trG m * trG m) (dtG m)) : stD (kdM m q) = .int (if lvG m = 0 then 1 else 2) := by
  have e : kdM m q = kdP q := if_neg ne
  rw [e]
  unfold stD
  rw [if_neg (kd_not_stays q)]
  by_cases lv : lvG m = 0
  · rw [if_pos ((kd_settles d0 h).mpr lv), if_pos lv]
  · rw [if_neg (fun z => lv ((kd_settles d0 h).mp z)), if_neg lv]
/-! mirrored maps and their squares -/
/-- a map m with a mirrored map D seen through it: M E conj(adj M) -/
def CnM (f : Int) (m D : G4) : G4 := mulm (mulm m (flm f D)) (flm 1 (adjm m))
theorem flm_scl (f : Int) (c : Gi) (m : G4) : flm f (scl c m) = scl (fl f c) (flm f m) := by
  unfold flm scl
  simp only [fl_mul]
theorem mulm_scl (c d : Gi) (m n : G4) : mulm (scl c m) (scl d n) = scl (c * d) (mulm m n) := by
  unfold mulm scl
  simp only [Prod.mk.injEq]
  refine ⟨?_, ?_, ?_, ?_⟩ <;> grind
theorem scl1 (m : G4) : scl 1 m = m := scl_one m
theorem scl2 (a b : Gi) (m : G4) : scl a (scl b m) = scl (a * b) m := by
  unfold scl
  simp only [Prod.mk.injEq]
  refine ⟨?_, ?_, ?_, ?_⟩ <;> grind
theorem flm_flm1 (m : G4) : flm 1 (flm 1 m) = m := by
  unfold flm fl
  simp only [if_true, Gi.cj_cj]
theorem fl_cj1 (z : Gi) : fl 1 z = z.cj := rfl
theorem flm_mul (f : Int) (m n : G4) : flm f (mulm m n) = mulm (flm f m) (flm f n) := by
  unfold flm mulm
  simp only [fl_mul, fl_add]
theorem mulm_assoc (a b c : G4) : mulm (mulm a b) c = mulm a (mulm b c) := by
  unfold mulm
  simp only [Prod.mk.injEq]
  refine ⟨?_, ?_, ?_, ?_⟩ <;> grind
theorem adj_mul (m : G4) : mulm (adjm m) m = scl (dtG m) g1 := by
  unfold mulm adjm scl dtG g1
  simp only [Prod.mk.injEq]
  refine ⟨?_, ?_, ?_, ?_⟩ <;> grind
theorem g1_mul (c : Gi) (m : G4) : mulm (scl c g1) m = scl c m := by
  unfold mulm scl g1
  simp only [Prod.mk.injEq]
  refine ⟨?_, ?_, ?_, ?_⟩ <;> grind
theorem mulm_sl (c : Gi) (m n : G4) : mulm (scl c m) n = scl c (mulm m n) := by
  have := mulm_scl c 1 m n
  rw [scl1] at this
  rw [this]
  congr 1
  grind
theorem mulm_sr (c : Gi) (m n : G4) : mulm m (scl c n) = scl c (mulm m n) := by
  have := mulm_scl 1 c m n
  rw [scl1] at this
  rw [this]
  congr 1
  grind
/-- its square -/
theorem cnM_sq (f : Int) (m D : G4) : Pr 1 (CnM f m D) (CnM f m D) = scl (dtG m).cj (Cnj m (mulm (flm f D) (flm 1 (flm f D)))) := by
  unfold CnM Cnj Pr
  rw [show Bk 0 m = adjm m from flm0 _, flm0, flm0, flm_mul, flm_mul, flm_flm1]
  generalize flm f D = E
  have e1 : mulm (flm 1 (adjm m)) (flm 1 m) = scl (dtG m).cj g1 := by
    rw [← flm_mul, adj_mul, flm_scl]
    rfl
  rw [mulm_assoc (mulm m E), ← mulm_assoc (flm 1 (adjm m)), ← mulm_assoc (flm 1 (adjm m)), e1, g1_mul, mulm_sl, mulm_sr]
  congr 1
  rw [← mulm_assoc (mulm m E), mulm_assoc m E]
theorem cn_scl (g : Gi) (m D : G4) : scl g (Cnj m D) = Cnj m (scl g D) := by
  unfold Cnj Pr
  rw [show Bk 0 m = adjm m from flm0 _]
  simp only [flm0]
  rw [mulm_sr, mulm_sl]
theorem mul_nn (a : Int) : 0 ≤ a * a := by
  rcases Int.le_total 0 a with o | o
  · exact Int.mul_nonneg o o
  · exact Int.mul_nonneg_of_nonpos_of_nonpos o o
/-- the square of what is made -/
theorem sq_of {n : Nat} {f : Int} {m D Y X : G4} {e : Gi} (e0 : e ≠ 0) (hY : CnM f m D = scl e Y) (hX : Fm n (Pr 1 Y Y) X) : ∃ u, u ≠ 0 ∧ Cnj m (scl (dtG m).cj (mulm (flm f D) (flm 1 (flm f D)))) = scl u X := by
  obtain ⟨c, c0, ec⟩ := hX.c
  refine ⟨e * e.cj * c, Gi.mul_ne (Gi.mul_ne e0 (Gi.cj_ne e0)) c0, ?_⟩
  rw [← cn_scl, ← cnM_sq, hY, pr_scl, ec, scl2]
  rfl
theorem sq_real (Y : G4) : (trG (Pr 1 Y Y)).im = 0 ∧ dtG (Pr 1 Y Y) = io (dtG Y).nm := by
  obtain ⟨⟨a, a'⟩, ⟨b, b'⟩, ⟨c, c'⟩, ⟨d, d'⟩⟩ := Y
  constructor
  · unfold trG Pr mulm flm fl Gi.cj
    simp only [if_true, Gi.add_im, Gi.mul_im]
    grind
  · refine Gi.ext' ?_ ?_
    · unfold dtG Pr mulm flm fl Gi.cj io Gi.nm
      simp only [if_true, Gi.sub_re, Gi.sub_im, Gi.add_re, Gi.add_im, Gi.mul_re, Gi.mul_im]
      grind
    · unfold dtG Pr mulm flm fl Gi.cj io
      simp only [if_true, Gi.sub_re, Gi.sub_im, Gi.add_re, Gi.add_im, Gi.mul_re, Gi.mul_im]
      grind
/-- the numbers of a square's ratio -/
theorem sq_nums {n l : Nat} {Y X : G4} {q : P3} (dY : dtG Y ≠ 0) (hX : Fm n (Pr 1 Y Y) X) (dX : dtG X ≠ 0) (hq : HG l q (trG X * trG X) (dtG X)) :
    q.1 * (dtG Y).nm = q.2.2 * ((trG (Pr 1 Y Y)).re * (trG (Pr 1 Y Y)).re) ∧ q.2.1 = 0 ∧ 0 < q.2.2 ∧ 0 < (dtG Y).nm := by
  obtain ⟨c, c0, ec⟩ := hX.c
  have pD := Gi.nm_pos dY
  obtain ⟨r0, r1⟩ := qp_r dX hq
  obtain ⟨s1, s2⟩ := sq_real Y
  have e := hq.e
  have e2 : zG q * dtG (Pr 1 Y Y) = rG q * (trG (Pr 1 Y Y) * trG (Pr 1 Y Y)) := by
    rw [ec, tr_scl, dt_scl]
    generalize zG q = z at *
    generalize rG q = r at *
    generalize trG X = t at *
    generalize dtG X = d at *
    clear ec hq s1 s2 r1 r0
    grind
  rw [s2] at e2
  have h1 := congrArg Gi.re e2
  have h2 := congrArg Gi.im e2
  unfold zG rG io at h1 h2
  simp only [Gi.mul_re, Gi.mul_im, s1] at h1 h2
  refine ⟨by grind, ?_, r0, pD⟩
  have : q.2.1 * (dtG Y).nm = 0 := by grind
  rcases Int.mul_eq_zero.mp this with o | o
  · exact o
  · omega
theorem sq_words {n l : Nat} {Y X : G4} {q : P3} (dY : dtG Y ≠ 0) (hX : Fm n (Pr 1 Y Y) X) (dX : dtG X ≠ 0) (hq : HG l q (trG X * trG X) (dtG X)) : kdP q = if q.1 = 4 * q.2.2 then ("settles" : Str) else if q.1 < 4 * q.2.2 then ("winds" : Str) else ("pulls" : Str) := by
  obtain ⟨h1, h2, h3, h4⟩ := sq_nums dY hX dX hq
  have p1 : ¬ q.1 < 0 := fun p0 => by
    have := Int.mul_neg_of_neg_of_pos p0 h4
    have := Int.mul_nonneg (Int.le_of_lt h3) (mul_nn (trG (Pr 1 Y Y)).re)
    omega
  unfold kdP
  rw [if_neg (by omega), if_neg p1]
/-- a mirrored map keeps the place -/
def KpM (Y : G4) (q : P3) : Prop := zG q * apw Y (zG q).cj (rG q) = rG q * apz Y (zG q).cj (rG q)
theorem Led.kpm {n : Nat} {m : G4} {q : P3} (h : Led n 1 m q q) : KpM m q := HG.e h
theorem KpM.scl {c : Gi} {m : G4} {q : P3} (c0 : c ≠ 0) : KpM (scl c m) q ↔ KpM m q := by
  unfold KpM
  obtain ⟨e1, e2⟩ := ap_scl c m (zG q).cj (rG q)
  rw [e1, e2]
  clear e1 e2
  generalize apw m (zG q).cj (rG q) = x
  generalize apz m (zG q).cj (rG q) = y
  generalize zG q = z
  generalize rG q = r
  clear q m
  constructor
  · intro h
    refine Gi.cancel c0 ?_
    grind
  · intro h
    grind
theorem nm2_pos2 {z w : Gi} (h : ¬(z = 0 ∧ w = 0)) : 0 < z.nm + w.nm := by
  have := z.nm_nn
  have := w.nm_nn
  have : z.nm + w.nm ≠ 0 := fun e => h ⟨Gi.nm_zero (by omega), Gi.nm_zero (by omega)⟩
  omega
theorem ker_det {M : G4} {z r : Gi} (h1 : M.1 * z + M.2.1 * r = 0) (h2 : M.2.2.1 * z + M.2.2.2 * r = 0) (nz : ¬(z = 0 ∧ r = 0)) : dtG M = 0 := by
  have a : dtG M * z = 0 := by unfold dtG; grind
  have b : dtG M * r = 0 := by unfold dtG; grind
  rcases Gi.mul_zero' a with o | o
  · exact o
  · rcases Gi.mul_zero' b with p | p
    · exact p
    · exact absurd ⟨o, p⟩ nz
/-- a kept place: the square has a real eigenvalue e / f above 0 -/
theorem kpm_eig {n : Nat} {Y : G4} {q : P3} (hq : Pt n q) (dY : dtG Y ≠ 0) (h : KpM Y q) : ∃ e f : Int, 0 < e ∧ 0 < f ∧ io f * io f * dtG (Pr 1 Y Y) - io f * io e * trG (Pr 1 Y Y) + io e * io e = 0 := by
  have nz := (HG.self hq).nz
  have cz : ¬((zG q).cj = 0 ∧ rG q = 0) := fun ⟨a, b⟩ => nz ⟨by have := congrArg Gi.cj a; rw [Gi.cj_cj] at this; exact this, b⟩
  have ab := ap_nz dY cz
  unfold KpM at h
  have fin : ∀ (e f : Int), 0 < e → 0 < f → io f * apz Y (apz Y (zG q).cj (rG q)).cj (apw Y (zG q).cj (rG q)).cj = io e * zG q → io f * apw Y (apz Y (zG q).cj (rG q)).cj (apw Y (zG q).cj (rG q)).cj = io e * rG q → ∃ e f : Int, 0 < e ∧ 0 < f ∧ io f * io f * dtG (Pr 1 Y Y) - io f * io e * trG (Pr 1 Y Y) + io e * io e = 0 := by
    intro e f e0 f0 x1 x2
    refine ⟨e, f, e0, f0, ?_⟩
    have rr : (rG q).cj = rG q := rG_self q
    have z1 : apz Y (apz Y (zG q).cj (rG q)).cj (apw Y (zG q).cj (rG q)).cj = (Pr 1 Y Y).1 * zG q + (Pr 1 Y Y).2.1 * rG q := by
      unfold apz apw
      simp only [Gi.cj_add, Gi.cj_mul, Gi.cj_cj, rr]
      show _ = (Y.1 * Y.1.cj + Y.2.1 * Y.2.2.1.cj) * zG q + (Y.1 * Y.2.1.cj + Y.2.1 * Y.2.2.2.cj) * rG q
      grind
    have z2 : apw Y (apz Y (zG q).cj (rG q)).cj (apw Y (zG q).cj (rG q)).cj = (Pr 1 Y Y).2.2.1 * zG q + (Pr 1 Y Y).2.2.2 * rG q := by
      unfold apz apw
      simp only [Gi.cj_add, Gi.cj_mul, Gi.cj_cj, rr]
      show _ = (Y.2.2.1 * Y.1.cj + Y.2.2.2 * Y.2.2.1.cj) * zG q + (Y.2.2.1 * Y.2.1.cj + Y.2.2.2 * Y.2.2.2.cj) * rG q
      grind
    rw [z1] at x1
    rw [z2] at x2
    generalize Pr 1 Y Y = S at *
    have := ker_det (M := (io f * S.1 - io e, io f * S.2.1, io f * S.2.2.1, io f * S.2.2.2 - io e)) (z := zG q) (r := rG q) (by simp only; grind) (by simp only; grind) nz
    unfold dtG at this ⊢
    unfold trG
    simp only at this
    grind
  have rr : (rG q).cj = rG q := rG_self q
  obtain ⟨A, hA⟩ : ∃ A, A = apz Y (zG q).cj (rG q) := ⟨_, rfl⟩
  obtain ⟨B, hB⟩ : ∃ B, B = apw Y (zG q).cj (rG q) := ⟨_, rfl⟩
  rw [← hA, ← hB] at h ab fin
  have hA2 : A = Y.1 * (zG q).cj + Y.2.1 * rG q := hA
  have hB2 : B = Y.2.2.1 * (zG q).cj + Y.2.2.2 * rG q := hB
  unfold apz apw at fin
  clear hA hB cz
  generalize zG q = z at *
  generalize rG q = r at *
  clear hq dY
  obtain ⟨a, b, c, d⟩ := Y
  simp only at *
  have Vp : 0 < z.nm + r.nm := nm2_pos2 nz
  have Vi : io (z.nm + r.nm) = z * z.cj + r * r := by
    rw [show io (z.nm + r.nm) = io z.nm + io r.nm from Gi.ext' rfl rfl, nm_io, nm_io, rr]
  generalize z.nm + r.nm = V at *
  obtain ⟨w, hw⟩ : ∃ w, w = z.cj * A + r * B := ⟨_, rfl⟩
  have v1 : io V * A = w * z := by rw [Vi, hw]; grind
  have v2 : io V * B = w * r := by rw [Vi, hw]; grind
  have Vc : (io V).cj = io V := Gi.ext' rfl (by show -(0 : Int) = 0; rfl)
  have V0 : io V ≠ 0 := fun z => by have := congrArg Gi.re z; unfold io at this; rw [Gi.zero_re] at this; simp only at this; omega
  have w0 : w ≠ 0 := fun x => by
    rw [x] at v1 v2
    refine ab ⟨?_, ?_⟩
    · exact (Gi.mul_zero' (show io V * A = 0 by rw [v1]; grind)).resolve_left V0
    · exact (Gi.mul_zero' (show io V * B = 0 by rw [v2]; grind)).resolve_left V0
  have c1 := congrArg Gi.cj v1
  have c2 := congrArg Gi.cj v2
  rw [Gi.cj_mul, Gi.cj_mul, Vc] at c1
  rw [Gi.cj_mul, Gi.cj_mul, Vc, rr] at c2
  have wi := nm_io w
  refine fin w.nm (V * V) (Gi.nm_pos w0) (Int.mul_pos Vp Vp) ?_ ?_
  · rw [io_mul, wi]
    have : io V * (a * A.cj + b * B.cj) = w.cj * A := by
      have e1 : io V * (a * A.cj + b * B.cj) = a * (io V * A.cj) + b * (io V * B.cj) := by grind
      have e2 : w.cj * A = w.cj * (a * z.cj + b * r) := congrArg (w.cj * ·) hA2
      rw [e1, c1, c2, e2]
      grind
    have : io V * (io V * (a * A.cj + b * B.cj)) = w.cj * (io V * A) := by rw [this]; grind
    rw [v1] at this
    grind
  · rw [io_mul, wi]
    have : io V * (c * A.cj + d * B.cj) = w.cj * B := by
      have e1 : io V * (c * A.cj + d * B.cj) = c * (io V * A.cj) + d * (io V * B.cj) := by grind
      have e2 : w.cj * B = w.cj * (c * z.cj + d * r) := congrArg (w.cj * ·) hB2
      rw [e1, c1, c2, e2]
      grind
    have : io V * (io V * (c * A.cj + d * B.cj)) = w.cj * (io V * B) := by rw [this]; grind
    rw [v2] at this
    grind
/-- a map that keeps a place does not wind -/
theorem kpm_not_winds {n l a : Nat} {Y X : G4} {q p : P3} (dY : dtG Y ≠ 0) (hX : Fm n (Pr 1 Y Y) X) (dX : dtG X ≠ 0) (hq : HG l q (trG X * trG X) (dtG X)) (hp : Pt a p) (hk : KpM Y p) : ¬ q.1 < 4 * q.2.2 := by
  obtain ⟨h1, h2, h3, h4⟩ := sq_nums dY hX dX hq
  obtain ⟨e, f, e0, f0, hx⟩ := kpm_eig hp dY hk
  obtain ⟨s1, s2⟩ := sq_real Y
  rw [s2] at hx
  have x := congrArg Gi.re hx
  unfold io at x
  simp only [Gi.add_re, Gi.sub_re, Gi.mul_re, Gi.mul_im, s1, Gi.zero_re] at x
  generalize (trG (Pr 1 Y Y)).re = t at *
  generalize (dtG Y).nm = D at *
  intro lt
  have x : f * e * t = f * f * D + e * e := by grind
  have y : (f * e * t) * (f * e * t) = (f * f * D - e * e) * (f * f * D - e * e) + 4 * ((f * e) * (f * e) * D) := by rw [x]; grind
  have y2 := mul_nn (f * f * D - e * e)
  have fe := Int.mul_pos f0 e0
  have fe2 := Int.mul_pos fe fe
  have y3 : (f * e) * (f * e) * (t * t - 4 * D) ≥ 0 := by grind
  have y4 : 0 ≤ t * t - 4 * D := by
    rcases Int.lt_or_le (t * t - 4 * D) 0 with o | o
    · have := Int.mul_neg_of_pos_of_neg fe2 o
      omega
    · exact o
  have y5 := Int.mul_nonneg (Int.le_of_lt h3) y4
  have y6 := Int.mul_neg_of_neg_of_pos (show q.1 - 4 * q.2.2 < 0 by omega) h4
  have y7 : (q.1 - 4 * q.2.2) * D = q.2.2 * (t * t - 4 * D) := by grind
  omega

theorem g1_data : D.tup [.int 0, .tup [.int 1, .int 0], .tup [.int 0, .int 0], .tup [.int 0, .int 0], .tup [.int 1, .int 0]] = mD 0 g1 := rfl
/-- the word of a mirrored map Y with the square X -/
theorem w_kindX {T : Tk} {n l : Nat} {Y X : G4} {k : KD} (hY : Mq n 1 Y) (hX : Fm l (Pr 1 Y Y) X) (ne : X ≠ g1) (hn : n ≤ 400) (h : ∀ (a : Nat) (q : P3), HG a q (trG X * trG X) (dtG X) → k (.str (kdP q)) T) : sm_kind [.val (mD 1 Y)] T k := by
  rw [e_kind, b_kind, k_STAYS]
  walk_at "wk"
  refine w_joined hY hY (by omega) fun x hx => ?_
  obtain rfl := hx.uniq hX
  have qX := hY.pr hY hx
  rw [show ((1 : Int) + 1) % 2 = 0 from rfl] at qX ⊢
  walk_at "wk"
  rw [g1_dc]
  refine iteB_n (decide_eq_false ne) ?_
  walk_at "wk"
  refine w_plain_kind qX (by omega) (fun e => absurd e ne) fun _ q' hq' => h _ q' hq'
/-- the number whose sign tells a mirror -/
def mrS (Y : G4) : Int := (Y.1 * Y.1.cj + Y.2.1 * Y.2.2.1.cj).re
theorem w_kindS {T : Tk} {n l : Nat} {Y : G4} {k : KD} (hY : Mq n 1 Y) (hX : Fm l (Pr 1 Y Y) g1) (hn : n ≤ 400) (h : k (.str (if 0 < mrS Y then ("mirror" : Str) else ("flips" : Str))) T) : sm_kind [.val (mD 1 Y)] T k := by
  rw [e_kind, b_kind, k_STAYS]
  walk_at "wk"
  refine w_joined hY hY (by omega) fun x hx => ?_
  obtain rfl := hx.uniq hX
  rw [show ((1 : Int) + 1) % 2 = 0 from rfl, ← g1_data]
  walk_at "wk"
  refine w_timesG (b := Y.1.cj) hY.s1.cz hY.s1.cj.cz (by omega) (by omega) ?_
  walk_at "wk"
  refine w_timesG (b := Y.2.2.1.cj) hY.s2.cz hY.s3.cj.cz (by omega) (by omega) ?_
  walk_at "wk"
  refine w_plusG ?_
  walk_at "wk"
  unfold mrS at h
  refine iteB_of (fun c => ?_) (fun c => ?_)
  · rw [if_pos (by simpa using c)] at h
    walk_at "wk"
    exact h
  · rw [if_neg (by simpa using c)] at h
    walk_at "wk"
    exact h
/-- the word of a mirrored map, in one -/
def WdM (Y X : G4) (w : Str) : Prop := (X = g1 ∧ w = (if 0 < mrS Y then ("mirror" : Str) else ("flips" : Str))) ∨ (X ≠ g1 ∧ (w = "settles" ∨ w = "winds" ∨ w = "pulls") ∧ ∀ (a : Nat) (q : P3), HG a q (trG X * trG X) (dtG X) → kdP q = w)
/-- how many places a mirrored map keeps, by its word -/
def smD (w : Str) : D := if w = "mirror" then .str "round" else if w = "settles" then .int 1 else if w = "pulls" then .int 2 else .int 0
theorem WdM.mem {Y X : G4} {w : Str} (h : WdM Y X w) : w ∈ (["mirror", "flips", "settles", "winds", "pulls"] : List Str) := by
  rcases h with ⟨_, rfl⟩ | ⟨_, rfl | rfl | rfl, _⟩
  · split <;> simp
  · simp
  · simp
  · simp
theorem w_kindW {T : Tk} {n l : Nat} {Y X : G4} {w : Str} {k : KD} (hY : Mq n 1 Y) (hX : Fm l (Pr 1 Y Y) X) (hw : WdM Y X w) (hn : n ≤ 400) (h : k (.str w) T) : sm_kind [.val (mD 1 Y)] T k := by
  rcases hw with ⟨rfl, rfl⟩ | ⟨ne, _, hq⟩
  · exact w_kindS hY hX hn h
  · exact w_kindX hY hX ne hn fun a q z => by rw [hq a q z]; exact h
theorem w_kind_ofW {T : Tk} {n l : Nat} {Y X : G4} {w : Str} {k : KD} (hY : Mq n 1 Y) (hX : Fm l (Pr 1 Y Y) X) (hw : WdM Y X w) (hn : n ≤ 400) (h : k (.str w) T) : sm_kind_of [.val (mD 1 Y)] T k := by
  rw [e_kind_of, b_kind_of]
  walk_at "wk"
  refine w_check_map hY (by omega) ?_
  walk_at "wk"
  exact w_kindW hY hX hw hn h
theorem w_stayingW {T : Tk} {n l : Nat} {Y X : G4} {w : Str} {k : KD} (hY : Mq n 1 Y) (hX : Fm l (Pr 1 Y Y) X) (hw : WdM Y X w) (hn : n ≤ 400) (h : k (smD w) T) : sm_staying [.val (mD 1 Y)] T k := by
  rw [e_staying, b_staying]
  walk_at "wk"
  refine w_kind_ofW hY hX hw hn ?_
  have hi := hw.mem
  simp only [List.mem_cons, List.not_mem_nil, or_false] at hi
  clear hw
  have e1 : smD "mirror" = .str "round" := rfl
  have e2 : smD "flips" = .int 0 := by unfold smD; rw [if_neg (by decide +kernel), if_neg (by decide +kernel), if_neg (by decide +kernel)]
  have e3 : smD "settles" = .int 1 := by unfold smD; rw [if_neg (by decide +kernel), if_pos rfl]
  have e4 : smD "winds" = .int 0 := by unfold smD; rw [if_neg (by decide +kernel), if_neg (by decide +kernel), if_neg (by decide +kernel)]
  have e5 : smD "pulls" = .int 2 := by unfold smD; rw [if_neg (by decide +kernel), if_neg (by decide +kernel), if_pos rfl]
  rcases hi with rfl | rfl | rfl | rfl | rfl
  · rw [e1] at h
    walk_at "wk"
    repeat (refine iteB_n (decide_eq_false (by decide +kernel)) ?_; walk_at "wk")
    exact h
  · rw [e2] at h
    walk_at "wk"
    repeat (refine iteB_n (decide_eq_false (by decide +kernel)) ?_; walk_at "wk")
    exact h
  · rw [e3] at h
    walk_at "wk"
    repeat (refine iteB_n (decide_eq_false (by decide +kernel)) ?_; walk_at "wk")
    exact h
  · rw [e4] at h
    walk_at "wk"
    repeat (refine iteB_n (decide_eq_false (by decide +kernel)) ?_; walk_at "wk")
    exact h
  · rw [e5] at h
    walk_at "wk"
    repeat (refine iteB_n (decide_eq_false (by decide +kernel)) ?_; walk_at "wk")
    exact h
instance kpmDec (Y : G4) (p : P3) : Decidable (KpM Y p) := inferInstanceAs (Decidable (_ = _))
theorem w_spFlips {T : Tk} {n l : Nat} {Y : G4} {k : KD} (hY : Mq n 1 Y) (hX : Fm l (Pr 1 Y Y) g1) (hw : WdM Y g1 "flips") (hn : n ≤ 400) (h : k (.tup []) T) : sm_staying_places [.val (mD 1 Y)] T k := by
  rw [e_staying_places, b_staying_places, k_STAYS]
  walk_at "wk"
  refine w_check_map hY (by omega) ?_
  walk_at "wk"
  refine w_stayingW hY hX hw hn ?_
  rw [show smD "flips" = .int 0 by unfold smD; rw [if_neg (by decide +kernel), if_neg (by decide +kernel), if_neg (by decide +kernel)]]
  walk_at "wk"
  refine ⟨⟨rfl, by decide +kernel⟩, iteB_n rfl ?_⟩
  walk_at "wk"
  refine w_joined hY hY (by omega) fun x hx => ?_
  obtain rfl := hx.uniq hX
  rw [show ((1 : Int) + 1) % 2 = 0 from rfl, ← g1_data]
  walk_at "wk"
  exact h
theorem kept_lc {n a : Nat} {Y : G4} {k : List D → Tk → Prop} {A1 : Option SV} {T : Tk} (hY : Mq n 1 Y) (hn : n + a ≤ 3990) : ∀ (ps acc : List P3), (∀ p ∈ ps, Pt a p) → k ((acc ++ ps.filter fun p => decide (KpM Y p)).map pD) T →
    lcK [some (.val (mD 1 Y)), A1, none] (cN 2) (dTst (dOp (oF fEq) (dCall 2 sm_led_by (aCons (dVar 0) (aCons (dVar 2) (aNil)))) (dVar 2))) (dVar 2) k (ps.map pD) (acc.map pD) T
  | [], acc, _, h => by
    rw [List.filter_nil, List.append_nil] at h
    exact h
  | p :: ps, acc, hp, h => by
    have ih := kept_lc (k := k) (A1 := A1) (T := T) hY hn ps
    have hq := hp p (by simp)
    rw [List.map_cons]
    walk_at "wk"
    refine w_led_by hY hq hn fun t ht => ?_
    walk_at "wk"
    have e3 : (decide (t.1 = p.1) && (decide (t.2.1 = p.2.1) && decide (t.2.2 = p.2.2))) = decide (t = p) := by
      obtain ⟨u1, u2, u3⟩ := t
      obtain ⟨v1, v2, v3⟩ := p
      simp only [Prod.mk.injEq, Bool.decide_and]
    rw [e3]
    have e4 : t = p ↔ KpM Y p := ⟨fun e => by rw [e] at ht; exact ht.kpm, fun e => ht.uniq (n := 2 * (n + a + 2) + 1) (HG.mk (hq.mono (by omega)) e ht.nz)⟩
    by_cases c : KpM Y p
    · refine iteB_p (decide_eq_true (e4.mpr c)) ?_
      walk_at "wk"
      rw [List.filter_cons, if_pos (decide_eq_true c)] at h
      have em : (acc ++ [p]).map pD = acc.map pD ++ [pD p] := by rw [List.map_append]; rfl
      rw [← em]
      exact ih (acc ++ [p]) (fun q h => hp q (by simp [h])) (by rw [List.append_assoc]; exact h)
    · refine iteB_n (decide_eq_false fun z => c (e4.mp z)) ?_
      rw [List.filter_cons, if_neg (by simpa using c)] at h
      exact ih acc (fun q h => hp q (by simp [h])) h
/-- the kept places among those of the square -/
theorem w_spKept {T : Tk} {n l : Nat} {Y X : G4} {w : Str} {G : List P3 → Prop} {k : KD} {a : Nat} (hY : Mq n 1 Y) (hX : Fm l (Pr 1 Y Y) X) (ne : X ≠ g1) (hw : WdM Y X w) (hn : n ≤ 400) (hp : ∀ ps, G ps → ps.length ≤ 100 ∧ ∀ p ∈ ps, Pt a p) (ha : a ≤ 1500) (pk : ∀ {T : Tk} {k : KD}, (∀ ps, G ps → k (.tup (ps.map pD)) T) → sm_plain_kept [.val (mD 0 X)] T k)
    (h : ∀ ps, G ps → k (.tup ((ps.filter fun p => decide (KpM Y p)).map pD)) T) : sm_staying_places [.val (mD 1 Y)] T k := by
  rw [e_staying_places, b_staying_places, k_STAYS]
  walk_at "wkn"
  refine w_check_map hY (by omega) ?_
  walk_at "wkn"
  refine w_stayingW hY hX hw hn ?_
  have hs : smD w = .int 0 ∨ smD w = .int 1 ∨ smD w = .int 2 := by
    rcases hw with ⟨e, _⟩ | ⟨_, hw, _⟩
    · exact absurd e ne
    · unfold smD
      rw [if_neg (by rcases hw with rfl | rfl | rfl <;> decide +kernel)]
      split
      · exact .inr (.inl rfl)
      split
      · exact .inr (.inr rfl)
      · exact .inl rfl
  have go : (D.tup [D.str "all", D.str "round"]).eqOk := ⟨rfl, by decide +kernel⟩
  rcases hs with hs | hs | hs <;> rw [hs]
  · walk_at "wkn"
    refine ⟨go, iteB_n rfl ?_⟩
    walk_at "wkn"
    refine w_joined hY hY (by omega) fun x hx => ?_
    obtain rfl := hx.uniq hX
    rw [show ((1 : Int) + 1) % 2 = 0 from rfl]
    walk_at "wkn"
    rw [g1_dc]
    refine iteB_n (decide_eq_false ne) ?_
    walk_at "wkn"
    refine pk fun ps hps => ?_
    obtain ⟨lp, hp⟩ := hp ps hps
    walk_at "wkn"
    refine ⟨by simp; omega, ?_⟩
    refine kept_lc hY (by omega) ps [] hp ?_
    walk_at "wkn"
    exact h ps hps
  · walk_at "wkn"
    refine ⟨go, iteB_n rfl ?_⟩
    walk_at "wkn"
    refine w_joined hY hY (by omega) fun x hx => ?_
    obtain rfl := hx.uniq hX
    rw [show ((1 : Int) + 1) % 2 = 0 from rfl]
    walk_at "wkn"
    rw [g1_dc]
    refine iteB_n (decide_eq_false ne) ?_
    walk_at "wkn"
    refine pk fun ps hps => ?_
    obtain ⟨lp, hp⟩ := hp ps hps
    walk_at "wkn"
    refine ⟨by simp; omega, ?_⟩
    refine kept_lc hY (by omega) ps [] hp ?_
    walk_at "wkn"
    exact h ps hps
  · walk_at "wkn"
    refine ⟨go, iteB_n rfl ?_⟩
    walk_at "wkn"
    refine w_joined hY hY (by omega) fun x hx => ?_
    obtain rfl := hx.uniq hX
    rw [show ((1 : Int) + 1) % 2 = 0 from rfl]
    walk_at "wkn"
    rw [g1_dc]
    refine iteB_n (decide_eq_false ne) ?_
    walk_at "wkn"
    refine pk fun ps hps => ?_
    obtain ⟨lp, hp⟩ := hp ps hps
    walk_at "wkn"
    refine ⟨by simp; omega, ?_⟩
    refine kept_lc hY (by omega) ps [] hp ?_
    walk_at "wkn"
    exact h ps hps
/-- at most two places, one if the level is 0 -/
def KpG (m : G4) (a : Nat) (ps : List P3) : Prop := ps.length ≤ 2 ∧ (lvG m = 0 → ps.length ≤ 1) ∧ ∀ p ∈ ps, Pt a p
theorem w_plain_keptG {T : Tk} {n : Nat} {m : G4} {k : KD} (hm : Mq n 0 m) (hn : n ≤ 900) (h : ∀ ps, KpG m (2 * n + 20) ps → k (.tup (ps.map pD)) T) : sm_plain_kept [.val (mD 0 m)] T k := by
  have two : ∀ {a b : P3}, Pt (2 * n + 20) a → Pt (2 * n + 20) b → lvG m ≠ 0 → k (ordT a b) T := fun {a b} ha hb lv => by
    unfold ordT
    split
    · exact h [a, b] ⟨by simp, fun z => absurd z lv, fun p hp => by simp only [List.mem_cons, List.not_mem_nil, or_false] at hp; rcases hp with rfl | rfl <;> assumption⟩
    · exact h [b, a] ⟨by simp, fun z => absurd z lv, fun p hp => by simp only [List.mem_cons, List.not_mem_nil, or_false] at hp; rcases hp with rfl | rfl <;> assumption⟩
  refine w_plain_kept hm hn (fun c0 ad => ?_) (fun c0 ad z hz zf => ?_) (fun c0 hr => ?_) (fun c0 w hw f g hf hg => ?_)
  · exact h [(1, 0, 0)] ⟨by simp, fun _ => by simp, fun p hp => by rw [List.mem_singleton.mp hp]; exact pt_far (by omega)⟩
  · refine two (pt_far (by omega)) (hz.pt.mono (by omega)) fun lv => ad ?_
    unfold lvG at lv
    rw [c0] at lv
    rcases Gi.mul_zero' (show (m.1 - m.2.2.2) * (m.1 - m.2.2.2) = 0 by grind) with o | o <;> grind
  · exact h [] ⟨by simp, fun _ => by simp, fun p hp => absurd hp (by simp)⟩
  · by_cases e : f = g
    · rw [if_pos e]
      exact h [f] ⟨by simp, fun _ => by simp, fun p hp => by rw [List.mem_singleton.mp hp]; exact hf.pt⟩
    · rw [if_neg e]
      refine two hf.pt hg.pt fun lv => e ?_
      have w2 := croot_isq hw
      rw [lv] at w2
      have w0 := (Gi.mul_zero' w2).elim id id
      rw [w0] at hf hg
      refine hf.uniq (n := 2 * n + 20) ?_
      rw [show m.1 - m.2.2.2 + 0 = m.1 - m.2.2.2 - 0 by grind]
      exact hg

/-! the cases of mirrored maps -/
theorem flz {f : Int} (hf : f = 0 ∨ f = 1) : fl f (0 : Gi) = 0 ∧ fl f (1 : Gi) = 1 := by
  rcases hf with rfl | rfl
  · exact ⟨rfl, rfl⟩
  · exact ⟨rfl, rfl⟩
theorem led_e0 {n : Nat} {m : G4} {p : P3} (h : Led n 0 m (0, 0, 1) p) : zG p * m.2.2.2 = rG p * m.2.1 := by
  have e := HG.e h
  rw [show apz m (fl 0 (zG (0, 0, 1))) (rG (0, 0, 1)) = m.2.1 by unfold apz; rw [show fl 0 (zG (0, 0, 1)) = 0 from rfl, show rG (0, 0, 1) = 1 from rfl]; grind,
    show apw m (fl 0 (zG (0, 0, 1))) (rG (0, 0, 1)) = m.2.2.2 by unfold apw; rw [show fl 0 (zG (0, 0, 1)) = 0 from rfl, show rG (0, 0, 1) = 1 from rfl]; grind] at e
  exact e
theorem led_e1 {n : Nat} {m : G4} {p : P3} (h : Led n 0 m (1, 0, 0) p) : zG p * m.2.2.1 = rG p * m.1 := by
  have e := HG.e h
  rw [show apz m (fl 0 (zG (1, 0, 0))) (rG (1, 0, 0)) = m.1 by unfold apz; rw [show fl 0 (zG (1, 0, 0)) = 1 from rfl, show rG (1, 0, 0) = 0 from rfl]; grind,
    show apw m (fl 0 (zG (1, 0, 0))) (rG (1, 0, 0)) = m.2.2.1 by unfold apw; rw [show fl 0 (zG (1, 0, 0)) = 1 from rfl, show rG (1, 0, 0) = 0 from rfl]; grind] at e
  exact e
/-- E conj(adj M) at the conjugate of (b, d) and of (a, c) -/
theorem cnM_kept0 {f : Int} {m : G4} {o t : Gi} {p : P3} (hf : f = 0 ∨ f = 1) (e : zG p * m.2.2.2 = rG p * m.2.1) : KpM (CnM f m (o, 0, 0, t)) p := by
  have rr := rG_self p
  have ec := congrArg Gi.cj e
  rw [Gi.cj_mul, Gi.cj_mul, rr] at ec
  have ze := (flz hf).1
  obtain ⟨a, b, c, d⟩ := m
  unfold KpM apz apw CnM mulm flm adjm
  simp only at e ec ⊢
  rw [ze]
  simp only [fl_cj1, Gi.cj_neg]
  generalize fl f o = x
  generalize fl f t = y
  generalize (zG p).cj = zc at *
  generalize zG p = z at *
  generalize rG p = r at *
  generalize a.cj = a' at *
  generalize b.cj = b' at *
  generalize c.cj = c' at *
  generalize d.cj = d' at *
  clear rr ze hf
  have k1 : d' * zc + -b' * r = 0 := by grind
  have l1 : (c * x * d' + (c * 0 + d * y) * -c') = c * x * d' - d * y * c' := by grind
  grind
theorem cnM_kept1 {f : Int} {m : G4} {o s t : Gi} {p : P3} (hf : f = 0 ∨ f = 1) (e : zG p * m.2.2.1 = rG p * m.1) : KpM (CnM f m (o, s, 0, t)) p := by
  have rr := rG_self p
  have ec := congrArg Gi.cj e
  rw [Gi.cj_mul, Gi.cj_mul, rr] at ec
  have ze := (flz hf).1
  obtain ⟨a, b, c, d⟩ := m
  unfold KpM apz apw CnM mulm flm adjm
  simp only at e ec ⊢
  rw [ze]
  simp only [fl_cj1, Gi.cj_neg]
  generalize fl f o = x
  generalize fl f t = y
  generalize fl f s = w
  generalize (zG p).cj = zc at *
  generalize zG p = z at *
  generalize rG p = r at *
  generalize a.cj = a' at *
  generalize b.cj = b' at *
  generalize c.cj = c' at *
  generalize d.cj = d' at *
  clear rr ze hf
  grind
/-- E conj(E) -/
theorem ee_dia {f : Int} (hf : f = 0 ∨ f = 1) (o t : Gi) : mulm (flm f (o, 0, 0, t)) (flm 1 (flm f (o, 0, 0, t))) = (io o.nm, 0, 0, io t.nm) := by
  have z := (flz hf).1
  unfold flm mulm
  simp only [z, fl_cj1, Gi.cj_zero, Prod.mk.injEq]
  have n1 := nm_io (fl f o)
  have n2 := nm_io (fl f t)
  rw [fl_nm] at n1 n2
  rw [n1, n2]
  refine ⟨?_, ?_, ?_, ?_⟩ <;> grind
theorem ee_anti {f : Int} (hf : f = 0 ∨ f = 1) (o t : Gi) : mulm (flm f (0, o, t, 0)) (flm 1 (flm f (0, o, t, 0))) = (fl f (o * t.cj), 0, 0, (fl f (o * t.cj)).cj) := by
  have z := (flz hf).1
  have tc : fl f t.cj = (fl f t).cj := by
    rcases hf with rfl | rfl <;> rfl
  rw [fl_mul, tc, Gi.cj_mul, Gi.cj_cj]
  unfold flm mulm
  simp only [z, fl_cj1, Gi.cj_zero, Prod.mk.injEq]
  refine ⟨?_, ?_, ?_, ?_⟩ <;> grind
/-- the sign of a mirror or a flip -/
theorem mr_sign {f : Int} {m D Y : G4} {e : Gi} {l : Int} (hY : CnM f m D = scl e Y) (hE : mulm (flm f D) (flm 1 (flm f D)) = scl (io l) g1) : e.nm * mrS Y = (dtG m).nm * l := by
  have s := cnM_sq f m D
  rw [hY, pr_scl, hE] at s
  have cg : Cnj m (scl (io l) g1) = scl (io l * dtG m) g1 := by
    obtain ⟨a, b, c, d⟩ := m
    simp only [Cnj, Pr, mulm, flm, fl, Bk, adjm, scl, g1, dtG, Prod.mk.injEq, Int.reduceEq, if_false, reduceIte]
    refine ⟨?_, ?_, ?_, ?_⟩ <;> grind
  rw [cg, scl2] at s
  have s1 := congrArg (fun x : G4 => x.1) s
  have s2 : e * fl 1 e * (Pr 1 Y Y).1 = (dtG m).cj * (io l * dtG m) * 1 := s1
  have pe : e * fl 1 e = io e.nm := (nm_io e).symm
  have pd : (dtG m).cj * (io l * dtG m) * 1 = io (dtG m).nm * io l := by rw [nm_io]; grind
  rw [pe, pd] at s2
  have r := congrArg Gi.re s2
  unfold io at r
  simp only [Gi.mul_re] at r
  have pm : (Pr 1 Y Y).1.re = mrS Y := rfl
  rw [pm] at r
  omega
theorem mr_pos {e d : Gi} {x l : Int} (e0 : e ≠ 0) (d0 : d ≠ 0) (h : e.nm * x = d.nm * l) : 0 < x ↔ 0 < l := by
  have pe := Gi.nm_pos e0
  have pd := Gi.nm_pos d0
  constructor
  · intro q
    have := Int.mul_pos pe q
    rcases Int.lt_or_le 0 l with o | o
    · exact o
    · have := Int.mul_nonpos_of_nonneg_of_nonpos (Int.le_of_lt pd) o; omega
  · intro q
    have := Int.mul_pos pd q
    rcases Int.lt_or_le 0 x with o | o
    · exact o
    · have := Int.mul_nonpos_of_nonneg_of_nonpos (Int.le_of_lt pe) o; omega
theorem scl_dia (g o t : Gi) : scl g (o, 0, 0, t) = (g * o, 0, 0, g * t) := by
  unfold scl
  simp only [Prod.mk.injEq]
  refine ⟨?_, ?_, ?_, ?_⟩ <;> grind
/-- the ratio, read the other way -/
theorem cj_back {n : Nat} {m X : G4} {o t u : Gi} {q : P3} (d0 : dtG m ≠ 0) (o0 : o ≠ 0) (t0 : t ≠ 0) (h : Cnj m (o, 0, 0, t) = scl u X) (hq : HG n q (trG X * trG X) (dtG X)) : HG n q ((o + t) * (o + t)) (o * t) := by
  have x := cj_tr m o t
  have y := cj_dt m o t
  rw [h, tr_scl] at x
  rw [h, dt_scl] at y
  refine hq.tr (fun z => Gi.mul_ne o0 t0 z.2) ?_
  refine Gi.cancel (Gi.mul_ne d0 d0) ?_
  generalize trG X = v at *
  generalize dtG X = w at *
  generalize dtG m = d at *
  clear h hq
  have x2 : (u * v) * (u * v) = (d * (o + t)) * (d * (o + t)) := by rw [x]
  grind
theorem kdF_pulls {g : Gi} {a b : Int} (g0 : g ≠ 0) (ha : 0 < a) (hb : 0 < b) (ne : a ≠ b) : kdF (g * io a) (g * io b) = "pulls" := by
  have pg := Gi.nm_pos g0
  have n1 : (g * io a).nm = g.nm * (a * a) := by rw [Gi.nm_mul]; congr 1; unfold Gi.nm io; simp
  have n2 : (g * io b).nm = g.nm * (b * b) := by rw [Gi.nm_mul]; congr 1; unfold Gi.nm io; simp
  have e : g * io a * (g * io b).cj = io (g.nm * (a * b)) := by
    rw [Gi.cj_mul, show (io b).cj = io b from Gi.ext' rfl (by show -(0 : Int) = 0; rfl), io_mul, io_mul, nm_io]
    grind
  unfold kdF
  rw [n1, n2, e, if_neg ?_, if_neg (by unfold io; simp), if_pos ?_]
  · exact Int.mul_pos pg (Int.mul_pos ha hb)
  · intro z
    have := Int.eq_of_mul_eq_mul_left (by omega) z
    apply ne
    rcases Int.lt_trichotomy a b with o | o | o
    · have := Int.mul_lt_mul o (Int.le_of_lt o) ha (Int.le_of_lt hb); omega
    · exact o
    · have := Int.mul_lt_mul o (Int.le_of_lt o) hb (Int.le_of_lt ha); omega
theorem kdF_winds {g l : Gi} : kdF (g * l) (g * l.cj) = "winds" := by
  unfold kdF
  rw [if_pos (by rw [Gi.nm_mul, Gi.nm_mul, Gi.nm_cj])]
theorem smD_v : smD "mirror" = .str "round" ∧ smD "flips" = .int 0 ∧ smD "settles" = .int 1 ∧ smD "winds" = .int 0 ∧ smD "pulls" = .int 2 := by
  refine ⟨rfl, ?_, ?_, ?_, ?_⟩ <;> unfold smD
  · rw [if_neg (by decide +kernel), if_neg (by decide +kernel), if_neg (by decide +kernel)]
  · rw [if_neg (by decide +kernel), if_pos rfl]
  · rw [if_neg (by decide +kernel), if_neg (by decide +kernel), if_neg (by decide +kernel)]
  · rw [if_neg (by decide +kernel), if_neg (by decide +kernel), if_pos rfl]
/-- each four numbers have a map -/
theorem fm_ex {n : Nat} {N : G4} (hN : N4 n N) (nz : fst4 N ≠ 0) : ∃ m, Fm n N m := by
  obtain ⟨a, b, c, d⟩ := N
  obtain ⟨x1, h1⟩ := g2_ex _ 0 a (Nat.le_refl _)
  obtain ⟨x2, h2⟩ := g2_ex _ x1 b (Nat.le_refl _)
  obtain ⟨x3, h3⟩ := g2_ex _ x2 c (Nat.le_refl _)
  obtain ⟨x4, h4⟩ := g2_ex _ x3 d (Nat.le_refl _)
  have g := gd_of h1 h2 h3 h4
  have gn : x4 ≠ 0 := fun z => by
    obtain ⟨⟨p, e1⟩, ⟨q, e2⟩, ⟨r, e3⟩, ⟨s, e4⟩, _⟩ := g
    simp only at e1 e2 e3 e4
    rw [z] at e1 e2 e3 e4
    apply nz
    unfold fst4
    simp only
    rw [show a = 0 by rw [e1]; grind, show b = 0 by rw [e2]; grind, show c = 0 by rw [e3]; grind, show d = 0 by rw [e4]; grind]
    simp
  obtain ⟨⟨p, e1⟩, ⟨q, e2⟩, ⟨r, e3⟩, ⟨s, e4⟩, u, v, w, t, es⟩ := g
  simp only at e1 e2 e3 e4 es
  have eN : ((a, b, c, d) : G4) = scl x4 (p, q, r, s) := by
    unfold scl
    simp only [Prod.mk.injEq]
    refine ⟨?_, ?_, ?_, ?_⟩ <;> grind
  have bz : u * p + v * q + w * r + t * s = 1 := by
    refine Gi.cancel gn ?_
    rw [e1, e2, e3, e4] at es
    grind
  have f0 : fst4 (p, q, r, s) ≠ 0 := fun z => nz (by rw [eN, fst4_scl gn, z]; grind)
  have un := guni_nm (fst4 (p, q, r, s))
  have qf := guni_qf f0
  generalize hU : guni (fst4 (p, q, r, s)) = U at un qf
  have uc : U * U.cj = 1 := by rw [← nm_io, un]; rfl
  have U0 : U ≠ 0 := fun z => by rw [z] at un; exact absurd un (by decide)
  have eN2 : ((a, b, c, d) : G4) = scl (x4 * U.cj) (scl U (p, q, r, s)) := by
    rw [eN, scl2]
    congr 1
    rw [show x4 * U.cj * U = x4 * (U * U.cj) by grind, uc]
    grind
  have cn : x4 * U.cj ≠ 0 := Gi.mul_ne gn (Gi.cj_ne U0)
  have part : ∀ {x y : Gi}, Nz n x → x = x4 * U.cj * y → Nz n y := fun {x y} hx e => Nz.dvd cn (by rw [← e]; exact hx)
  have e' := eN2
  unfold scl at e'
  simp only [Prod.mk.injEq] at e'
  obtain ⟨k1, k2, k3, k4⟩ := e'
  refine ⟨scl U (p, q, r, s), ⟨⟨u * U.cj, v * U.cj, w * U.cj, t * U.cj, ?_⟩, ?_⟩, ⟨x4 * U.cj, cn, eN2⟩, part hN.s1 k1, part hN.s2 k2, part hN.s3 k3, part hN.s4 k4⟩
  · unfold scl
    simp only
    rw [show u * U.cj * (U * p) + v * U.cj * (U * q) + w * U.cj * (U * r) + t * U.cj * (U * s) = (U * U.cj) * (u * p + v * q + w * r + t * s) by grind, uc, bz]
    grind
  · rw [fst4_scl U0, show U * fst4 (p, q, r, s) = fst4 (p, q, r, s) * U by grind]
    exact qf
/-- each quotient has a place -/
theorem hg_ex {z w : Gi} (w0 : w ≠ 0) : ∃ (n : Nat) (q : P3), HG n q z w := by
  have np := Gi.nm_pos w0
  obtain ⟨x, hx⟩ : ∃ x, x = (z * w.cj).re := ⟨_, rfl⟩
  obtain ⟨y, hy⟩ : ∃ y, y = (z * w.cj).im := ⟨_, rfl⟩
  obtain ⟨v, hv⟩ : ∃ v, v = w.nm := ⟨_, rfl⟩
  have v0 : 0 < v := by rw [hv]; exact np
  obtain ⟨n, s1, s2, s3⟩ : ∃ n, Sz n x ∧ Sz n y ∧ Sz n v := by
    have up : ∀ a b : Nat, a ≤ b → a < 2 ^ b := fun a b h => Nat.lt_of_le_of_lt h Nat.lt_two_pow_self
    exact ⟨x.natAbs + y.natAbs + v.natAbs, up _ _ (by omega), up _ _ (by omega), up _ _ (by omega)⟩
  have vz := rne' v0
  have hq := plq_low (u := (x : Rat) / (v : Rat)) (v := (y : Rat) / (v : Rat)) v0 s1 s2 s3 (by generalize (v : Rat) = Z at *; grind) (by generalize (v : Rat) = Z at *; grind)
  obtain ⟨e1, e2, _⟩ := plq_cast hq
  have hpt := hq.pt
  generalize (x / gcdL 0 [x, y, v], y / gcdL 0 [x, y, v], v / gcdL 0 [x, y, v]) = q at *
  have i1 : q.1 * v = q.2.2 * x := cast_inj (by push_cast; rw [e1]; generalize (v : Rat) = Z at *; grind)
  have i2 : q.2.1 * v = q.2.2 * y := cast_inj (by push_cast; rw [e2]; generalize (v : Rat) = Z at *; grind)
  refine ⟨n, q, HG.tr (z := z * w.cj) (w := io v) ⟨hpt, ?_, fun z => by have := congrArg Gi.re z.2; unfold io at this; rw [Gi.zero_re] at this; simp only at this; omega⟩ (fun z => w0 z.2) ?_⟩
  · unfold zG rG io
    refine Gi.ext' ?_ ?_
    · simp only [Gi.mul_re]; rw [← Gi.mul_re, ← hx]; simp only [Int.zero_mul, Int.mul_zero, Int.sub_zero]; omega
    · simp only [Gi.mul_im]; rw [← Gi.mul_im, ← hy]; simp only [Int.zero_mul, Int.mul_zero, Int.zero_add, Int.add_zero]; omega
  · rw [hv, nm_io]
    grind
theorem sq_ex {n : Nat} {Y : G4} (hY : Mq n 1 Y) : ∃ X, Fm (n + n + 2) (Pr 1 Y Y) X := fm_ex (n4_pr hY.n4 hY.n4) (dt_fst (dt_pr hY.dt hY.dt))
theorem g1_io (l : Int) : scl (io l) g1 = (io l, 0, 0, io l) := by
  unfold scl g1
  simp only [Prod.mk.injEq]
  refine ⟨?_, ?_, ?_, ?_⟩ <;> grind
/-- a map that winds keeps no place -/
theorem winds_none {T : Tk} {n l : Nat} {Y X : G4} {k : KD} (hY : Mq n 1 Y) (hX : Fm l (Pr 1 Y Y) X) (ne : X ≠ g1) (hw : WdM Y X "winds") (hn : n ≤ 300) (h : k (.tup []) T) : sm_staying_places [.val (mD 1 Y)] T k := by
  obtain ⟨X', hX'⟩ := sq_ex hY
  obtain rfl := hX.uniq hX'
  have qX := hY.pr hY hX'
  rw [show ((1 : Int) + 1) % 2 = 0 from rfl] at qX
  obtain ⟨nq, q, hq⟩ := hg_ex (z := trG X * trG X) qX.dt
  have kq : kdP q = "winds" := by
    rcases hw with ⟨z, _⟩ | ⟨_, _, z⟩
    · exact absurd z ne
    · exact z _ q hq
  rw [sq_words hY.dt hX' qX.dt hq] at kq
  have lt : q.1 < 4 * q.2.2 := by
    by_cases c1 : q.1 = 4 * q.2.2
    · rw [if_pos c1] at kq
      exact absurd kq (by decide +kernel)
    · rw [if_neg c1] at kq
      by_cases c2 : q.1 < 4 * q.2.2
      · exact c2
      · rw [if_neg c2] at kq
        exact absurd kq (by decide +kernel)
  refine w_spKept (G := KpG X (2 * (n + n + 2) + 20)) hY hX' ne hw (by omega) (fun ps hps => ⟨by have := hps.1; omega, hps.2.2⟩) (by omega) (fun {T k} y => w_plain_keptG qX (by omega) y) fun ps hps => ?_
  have fl : ps.filter (fun p => decide (KpM Y p)) = [] := by
    rw [List.filter_eq_nil_iff]
    intro p hp c
    exact kpm_not_winds hY.dt hX' qX.dt hq (hps.2.2 p hp) (of_decide_eq_true c) lt
  rw [fl]
  exact h
theorem adj_mulm (a b : G4) : adjm (mulm a b) = mulm (adjm b) (adjm a) := by
  unfold adjm mulm
  simp only [Prod.mk.injEq]
  refine ⟨?_, ?_, ?_, ?_⟩ <;> grind
theorem adj_adj (a : G4) : adjm (adjm a) = a := by
  obtain ⟨a, b, c, d⟩ := a
  unfold adjm
  simp only [Prod.mk.injEq, true_and, and_true]
  refine ⟨?_, ?_⟩ <;> grind
theorem cnj_eq (m D : G4) : Cnj m D = mulm (mulm m D) (adjm m) := by
  unfold Cnj Pr Bk
  rw [flm0, flm0, flm0]
theorem cnj_bk (m D : G4) : Bk 0 (Cnj m D) = Cnj m (adjm D) := by
  unfold Bk
  rw [flm0, cnj_eq, cnj_eq, adj_mulm, adj_mulm, adj_adj, mulm_assoc]
theorem adj_flm (f : Int) (m : G4) : adjm (flm f m) = flm f (adjm m) := by
  unfold adjm flm fl
  simp only
  split
  · rfl
  · rfl
theorem cnM_eq (m D : G4) : CnM 0 m D = mulm (mulm m D) (flm 1 (adjm m)) := by
  unfold CnM
  rw [flm0]
theorem cnM_bk (m D : G4) : Bk 1 (CnM 0 m D) = CnM 0 m (flm 1 (adjm D)) := by
  unfold Bk
  rw [cnM_eq, cnM_eq, adj_mulm, adj_mulm, adj_flm, adj_adj, flm_mul, flm_flm1, flm_mul, mulm_assoc]
theorem cg_lv (m : G4) (p c : Gi) : lvG (Cnj m (p, c, 0, p)) = 0 := by
  obtain ⟨a, b, c, d⟩ := m
  simp only [Cnj, Pr, mulm, flm, fl, Bk, adjm, lvG, Int.reduceEq, if_false, reduceIte]
  grind
theorem cg_stays {m : G4} {p s e : Gi} (d0 : dtG m ≠ 0) (h : Cnj m (p, s, 0, p) = scl e g1) : s = 0 := by
  obtain ⟨a, b, c, d⟩ := m
  simp only [Cnj, Pr, mulm, flm, fl, Bk, adjm, scl, g1, Prod.mk.injEq, Int.reduceEq, if_false, reduceIte] at h
  unfold dtG at d0
  simp only at d0
  obtain ⟨h1, h2, h3, h4⟩ := h
  have x1 : s * (a * a) = 0 := by grind
  have x2 : s * (c * c) = 0 := by grind
  rcases Gi.mul_zero' x1 with q | q
  · exact q
  · rcases Gi.mul_zero' x2 with r | r
    · exact r
    · exfalso
      have a0 := (Gi.mul_zero' q).elim id id
      have c0 := (Gi.mul_zero' r).elim id id
      apply d0
      rw [a0, c0]
      grind
theorem cg_kept {m : G4} {p s : Gi} {q : P3} (e : zG q * m.2.2.1 = rG q * m.1) : Kpt (Cnj m (p, s, 0, p)) q := by
  unfold Kpt apz apw
  generalize zG q = z at *
  generalize rG q = r at *
  obtain ⟨a, b, c, d⟩ := m
  simp only [Cnj, Pr, mulm, flm, fl, Bk, adjm, Int.reduceEq, if_false, reduceIte] at e ⊢
  grind
theorem cd_lv (m : G4) (o t : Gi) : lvG (Cnj m (o, 0, 0, t)) = dtG m * dtG m * ((o - t) * (o - t)) := by
  obtain ⟨a, b, c, d⟩ := m
  simp only [Cnj, Pr, mulm, flm, fl, Bk, adjm, lvG, dtG, Int.reduceEq, if_false, reduceIte]
  grind
/-- the mirror's own numbers -/
theorem mrS_scl (c : Gi) (Y : G4) : mrS (scl c Y) = c.nm * mrS Y := by
  obtain ⟨⟨a, a'⟩, ⟨b, b'⟩, ⟨d, d'⟩, ⟨f, f'⟩⟩ := Y
  obtain ⟨c, c'⟩ := c
  simp only [mrS, scl, Gi.nm, Gi.cj, Gi.mul_re, Gi.mul_im, Gi.add_re]
  grind
theorem mrS_mm (r : R4) : mrS (MM r) = bnd r := by
  obtain ⟨a, b, c, d⟩ := r
  simp only [mrS, MM, Gi.cj, Gi.mul_re, Gi.mul_im, Gi.add_re, bnd]
  grind
theorem mir_facts {l n : Nat} {r : R4} {K X : G4} (b0 : 0 < bnd r) (hK : Fm l (MM r) K) (hX : Fm n (Pr 1 K K) X) : X = g1 ∧ 0 < mrS K := by
  obtain ⟨c, c0, e⟩ := hK.c
  have nc := Gi.nm_pos c0
  constructor
  · have sq := mm_sq r
    rw [e, pr_scl] at sq
    obtain ⟨u, u0, eu⟩ := hX.c
    rw [eu, scl2] at sq
    exact mp_uniq hX.mp Mq.g1.mp (Gi.mul_ne (Gi.mul_ne c0 (fl_ne c0)) u0) (io_ne (by omega)) sq
  · have h := mrS_mm r
    rw [e, mrS_scl] at h
    rcases Int.lt_or_le 0 (mrS K) with o | o
    · exact o
    · have := Int.mul_nonpos_of_nonneg_of_nonpos (Int.le_of_lt nc) o
      omega
theorem not_mir {l n : Nat} {r : R4} {K X : G4} {w : Str} (b0 : 0 < bnd r) (hX : Fm n (Pr 1 K K) X) (hw : WdM K X w) (ne : w ≠ "mirror") : ¬ Fm l (MM r) K := fun hK => by
  obtain ⟨x1, s⟩ := mir_facts b0 hK hX
  rcases hw with ⟨_, e⟩ | ⟨z, _⟩
  · rw [if_pos s] at e
    exact ne e
  · exact z x1

/-- what agreement tells of a step -/
inductive AgS (f : Int) (K : G4) : D → Prop
  | all (h1 : f = 0) (h2 : K = g1) : AgS f K (.tup [.str "all"])
  | rnd {n : Nat} (r : R4) (l : Nat) (hr : Rd n r) (hn : n ≤ 300) (hl : l ≤ 300) (h1 : f = 1) (hK : Fm l (MM r) K) : AgS f K (.tup [.str "round", rD r])
  | pls (w : Str) (s : Int) (P : D) (st : f = 0 → K ≠ g1) (nm : f = 1 → ∀ (r : R4) (l : Nat), 0 < bnd r → ¬ Fm l (MM r) K) (nw : w ≠ "mirror") (hs : s = 0 ∨ s = 1 ∨ s = 2) (kp : KPl P)
      (kd : ∀ (T : Tk) (k : KD), k (.str w) T → sm_kind [.val (mD f K)] T k) (sg : ∀ (T : Tk) (k : KD), k (.int s) T → sm_staying [.val (mD f K)] T k) (sp : ∀ (T : Tk) (k : KD), k P T → sm_staying_places [.val (mD f K)] T k) : AgS f K (.tup [.str "places", .int s, P])
theorem kdM_nm (m : G4) (q : P3) : kdM m q ≠ "mirror" := fun e => by
  have h := kdM_in m q
  rw [e] at h
  exact absurd h (by decide +kernel)
/-- a plain map that does not stay -/
theorem ag_plain {n : Nat} {K : G4} {P : D} (qK : Mq n 0 K) (hn : n ≤ 400) (x1 : K ≠ g1) (kp : KPl P) (sp : ∀ (T : Tk) (k : KD), k P T → sm_plain_kept [.val (mD 0 K)] T k) : AgS 0 K (.tup [.str "places", .int (if lvG K = 0 then 1 else 2), P]) := by
  obtain ⟨l, q, hq⟩ := hg_ex (z := trG K * trG K) qK.dt
  refine .pls (kdM K q) _ P (fun _ => x1) (fun z => absurd z (by decide)) (kdM_nm K q) (by split <;> simp) kp (fun T k h => w_kindP qK (by omega) hq h) (fun T k h => w_staying qK (by omega) hq ?_) (fun T k h => w_staying_kept qK (by omega) x1 hq (sp T k h))
  rw [st_many x1 qK.dt hq]
  exact h
theorem ag_grow {n a b : Nat} {m K : G4} {o t e : Gi} {u v : P3} (qK : Mq n 0 K) (hn : n ≤ 400) (d0 : dtG m ≠ 0) (e0 : e ≠ 0) (eK : Cnj m (o, 0, 0, t) = scl e K) (ne : o ≠ t) (lu : Led a 0 m (0, 0, 1) u) (lv : Led b 0 m (1, 0, 0) v) (ha : a ≤ 1000) (hb : b ≤ 1000) (nuv : u ≠ v) :
    AgS 0 K (.tup [.str "places", .int 2, ordT u v]) := by
  have x1 : K ≠ g1 := fun z => ne (by rw [z] at eK; exact cj_stays d0 eK)
  have l0 : lvG K ≠ 0 := fun z => by
    have h := cd_lv m o t
    rw [eK, lv_scl, z] at h
    have ot : o - t ≠ 0 := fun w => ne (by
      clear h eK
      grind)
    have h' : dtG m * dtG m * ((o - t) * (o - t)) = 0 := by
      rw [← h]
      generalize e * e = E
      clear h eK
      grind
    exact Gi.mul_ne (Gi.mul_ne d0 d0) (Gi.mul_ne ot ot) h'
  have k0 : Kpt K u := (Kpt.scl e0).mp (by rw [← eK]; exact cj_kept0 lu)
  have k1 : Kpt K v := (Kpt.scl e0).mp (by rw [← eK]; exact cj_kept1 lv)
  have := ag_plain (P := ordT u v) qK hn x1 (kpl_ord (lu.pt.mono (by omega)) (lv.pt.mono (by omega))) (fun T k h => w_plain_kept2 qK (by omega) x1 lu.pt lv.pt k0 k1 nuv h)
  rw [if_neg l0] at this
  exact this
theorem ag_shift {n b : Nat} {m K : G4} {s e : Gi} {v : P3} (qK : Mq n 0 K) (hn : n ≤ 400) (d0 : dtG m ≠ 0) (e0 : e ≠ 0) (eK : Cnj m (1, s, 0, 1) = scl e K) (s0 : s ≠ 0) (lv : Led b 0 m (1, 0, 0) v) (hb : b ≤ 1000) :
    AgS 0 K (.tup [.str "places", .int 1, .tup [pD v]]) := by
  have x1 : K ≠ g1 := fun z => s0 (by rw [z] at eK; exact cj_stays2 d0 eK)
  have l0 : lvG K = 0 := by
    have h := cj_lv2 m s
    rw [eK, lv_scl] at h
    exact (Gi.mul_zero' h).resolve_left (Gi.mul_ne e0 e0)
  have k1 : Kpt K v := (Kpt.scl e0).mp (by rw [← eK]; exact cj_kept2 lv)
  have := ag_plain (P := .tup [pD v]) qK hn x1 (.inr (.inr (.inl ⟨v, rfl, lv.pt.mono (by omega)⟩))) (fun T k h => w_plain_kept1 qK (by omega) x1 lv.pt k1 l0 h)
  rw [if_pos l0] at this
  exact this
/-- a mirrored map that is no mirror -/
theorem ag_mirrored {n l : Nat} {K X : G4} {w : Str} {s : Int} {P : D} (qK : Mq n 1 K) (hn : n ≤ 300) (hX : Fm l (Pr 1 K K) X) (hw : WdM K X w) (nw : w ≠ "mirror") (es : smD w = .int s) (hs : s = 0 ∨ s = 1 ∨ s = 2) (kp : KPl P) (sp : ∀ (T : Tk) (k : KD), k P T → sm_staying_places [.val (mD 1 K)] T k) :
    AgS 1 K (.tup [.str "places", .int s, P]) := by
  refine .pls w s P (fun z => absurd z (by decide)) (fun _ r l' b0 => not_mir b0 hX hw nw) nw hs kp (fun T k h => w_kindW qK hX hw (by omega) h) (fun T k h => w_stayingW qK hX hw (by omega) ?_) sp
  rw [es]
  exact h
theorem ag_pull {n a b : Nat} {m K : G4} {o t e : Gi} {u v : P3} (qK : Mq n 1 K) (hn : n ≤ 300) (d0 : dtG m ≠ 0) (e0 : e ≠ 0) (eK : CnM 0 m (o, 0, 0, t) = scl e K) (o0 : o ≠ 0) (t0 : t ≠ 0) (ne : o.nm ≠ t.nm) (lu : Led a 0 m (0, 0, 1) u) (lv : Led b 0 m (1, 0, 0) v) (ha : a ≤ 1000) (hb : b ≤ 1000) (nuv : u ≠ v) :
    AgS 1 K (.tup [.str "places", .int 2, ordT u v]) := by
  obtain ⟨X, hX⟩ := sq_ex qK
  have qX := qK.pr qK hX
  rw [show ((1 : Int) + 1) % 2 = 0 from rfl] at qX
  obtain ⟨u', u0, eX⟩ := sq_of e0 eK hX
  rw [ee_dia (.inl rfl), scl_dia] at eX
  have g0 : (dtG m).cj ≠ 0 := Gi.cj_ne d0
  have no := Gi.nm_pos o0
  have nt := Gi.nm_pos t0
  have o2 : (dtG m).cj * io o.nm ≠ 0 := Gi.mul_ne g0 (io_ne (by omega))
  have t2 : (dtG m).cj * io t.nm ≠ 0 := Gi.mul_ne g0 (io_ne (by omega))
  have ne2 : (dtG m).cj * io o.nm ≠ (dtG m).cj * io t.nm := fun z => ne (io_inj (Gi.cancel g0 z))
  have x1 : X ≠ g1 := fun z => ne2 (by rw [z] at eX; exact cj_stays d0 eX)
  have hw : WdM K X "pulls" := .inr ⟨x1, .inr (.inr rfl), fun a q hq => by
    rw [kd_of o2 t2 ne2 (cj_back d0 o2 t2 eX hq)]
    exact kdF_pulls g0 no nt ne⟩
  have k0 : Kpt X u := (Kpt.scl u0).mp (by rw [← eX]; exact cj_kept0 lu)
  have k1 : Kpt X v := (Kpt.scl u0).mp (by rw [← eX]; exact cj_kept1 lv)
  have m0 : KpM K u := (KpM.scl e0).mp (by rw [← eK]; exact cnM_kept0 (.inl rfl) (led_e0 lu))
  have m1 : KpM K v := (KpM.scl e0).mp (by rw [← eK]; exact cnM_kept1 (.inl rfl) (led_e1 lv))
  refine ag_mirrored qK hn hX hw (by decide +kernel) (s := 2) smD_v.2.2.2.2 (.inr (.inr rfl)) (kpl_ord (lu.pt.mono (by omega)) (lv.pt.mono (by omega))) fun T k z => ?_
  refine w_spKept (G := fun ps => D.tup (ps.map pD) = ordT u v ∧ (ps = [u, v] ∨ ps = [v, u])) (a := 1000) qK hX x1 hw (by omega) (fun ps hps => ?_) (by decide) (fun {T k} y => w_plain_kept2 qX (by omega) x1 lu.pt lv.pt k0 k1 nuv ?_) fun ps hps => ?_
  · rcases hps.2 with rfl | rfl
    · exact ⟨by simp, fun q hq => by simp only [List.mem_cons, List.not_mem_nil, or_false] at hq; rcases hq with rfl | rfl; exact lu.pt.mono ha; exact lv.pt.mono hb⟩
    · exact ⟨by simp, fun q hq => by simp only [List.mem_cons, List.not_mem_nil, or_false] at hq; rcases hq with rfl | rfl; exact lv.pt.mono hb; exact lu.pt.mono ha⟩
  · unfold ordT at y ⊢
    split
    · rename_i c
      exact y [u, v] ⟨by rw [if_pos c]; rfl, .inl rfl⟩
    · rename_i c
      exact y [v, u] ⟨by rw [if_neg c]; rfl, .inr rfl⟩
  · have fl : ps.filter (fun p => decide (KpM K p)) = ps := by
      rw [List.filter_eq_self]
      intro q hq
      rcases hps.2 with rfl | rfl <;> (simp only [List.mem_cons, List.not_mem_nil, or_false] at hq; rcases hq with rfl | rfl <;> simp [m0, m1])
    rw [fl, hps.1]
    exact z
/-- a map that changes 0 and the far place, without a kept place -/
theorem ag_none {n : Nat} {m K : G4} {o t e : Gi} (qK : Mq n 1 K) (hn : n ≤ 300) (d0 : dtG m ≠ 0) (e0 : e ≠ 0) (eK : CnM 0 m (0, o, t, 0) = scl e K) (o0 : o ≠ 0) (t0 : t ≠ 0) (ne : (o * t.cj).im ≠ 0 ∨ (o * t.cj).re < 0) : AgS 1 K (.tup [.str "places", .int 0, .tup []]) := by
  obtain ⟨X, hX⟩ := sq_ex qK
  have qX := qK.pr qK hX
  rw [show ((1 : Int) + 1) % 2 = 0 from rfl] at qX
  obtain ⟨u', u0, eX⟩ := sq_of e0 eK hX
  rw [ee_anti (.inl rfl), scl_dia] at eX
  have g0 : (dtG m).cj ≠ 0 := Gi.cj_ne d0
  have L0 : o * t.cj ≠ 0 := Gi.mul_ne o0 (Gi.cj_ne t0)
  rw [show fl 0 (o * t.cj) = o * t.cj from rfl] at eX
  by_cases s : (o * t.cj).im = 0
  · have fe : o * t.cj = io (o * t.cj).re := Gi.ext' rfl s
    have fc : (o * t.cj).cj = io (o * t.cj).re := by
      conv => lhs; rw [fe]
      exact Gi.ext' rfl (by show -(0 : Int) = 0; rfl)
    have r1 : (o * t.cj).re < 0 := ne.resolve_left fun z => z s
    have sg := mr_sign (f := 0) (l := (o * t.cj).re) eK (by rw [ee_anti (.inl rfl), show fl 0 (o * t.cj) = o * t.cj from rfl, fc]; conv => lhs; rw [fe]
                                                            exact (g1_io _).symm)
    rw [fc] at eX
    rw [show (o * t.cj) = io (o * t.cj).re from fe, show (io (o * t.cj).re).re = (o * t.cj).re from rfl] at eX
    have x1 := cj_same qX (Gi.mul_ne g0 (io_ne (by omega))) d0 eX
    subst x1
    have ns : ¬ 0 < mrS K := fun z => absurd ((mr_pos e0 d0 sg).mp z) (by omega)
    have hw : WdM K g1 "flips" := .inl ⟨rfl, by rw [if_neg ns]⟩
    exact ag_mirrored qK hn hX hw (by decide +kernel) (s := 0) smD_v.2.1 (.inl rfl) (.inr (.inl rfl)) fun T k z => w_spFlips qK hX hw (by omega) z
  · have ne2 : (dtG m).cj * (o * t.cj) ≠ (dtG m).cj * (o * t.cj).cj := fun z => s (by
      have y := congrArg Gi.im (Gi.cancel g0 z)
      have y2 : (o * t.cj).im = -(o * t.cj).im := y
      omega)
    have o2 := Gi.mul_ne g0 L0
    have t2 := Gi.mul_ne g0 (Gi.cj_ne L0)
    have x1 : X ≠ g1 := fun z => ne2 (by rw [z] at eX; exact cj_stays d0 eX)
    have kw : ∀ (a : Nat) (q : P3), HG a q (trG X * trG X) (dtG X) → kdP q = "winds" := fun a q hq => by
      rw [kd_of o2 t2 ne2 (cj_back d0 o2 t2 eX hq)]
      exact kdF_winds
    have hw : WdM K X "winds" := .inr ⟨x1, .inr (.inl rfl), kw⟩
    exact ag_mirrored qK hn hX hw (by decide +kernel) (s := 0) smD_v.2.2.2.1 (.inl rfl) (.inr (.inl rfl)) fun T k z => winds_none qK hX x1 hw hn z
theorem ee_set (a b : Gi) : mulm (flm 0 (a, b, 0, a.cj)) (flm 1 (flm 0 (a, b, 0, a.cj))) = (io a.nm, a * io (2 * b.re), 0, io a.nm) := by
  obtain ⟨a, a'⟩ := a
  obtain ⟨b, b'⟩ := b
  rw [flm0]
  simp only [mulm, flm, fl, reduceIte, Prod.mk.injEq]
  refine ⟨Gi.ext' ?_ ?_, Gi.ext' ?_ ?_, Gi.ext' ?_ ?_, Gi.ext' ?_ ?_⟩ <;> simp only [Gi.cj, io, Gi.nm, Gi.add_re, Gi.add_im, Gi.mul_re, Gi.mul_im, Gi.zero_re, Gi.zero_im] <;> grind
theorem ag_settle {n b : Nat} {m K : G4} {a s e : Gi} {v : P3} (qK : Mq n 1 K) (hn : n ≤ 300) (d0 : dtG m ≠ 0) (e0 : e ≠ 0) (eK : CnM 0 m (a, s, 0, a.cj) = scl e K) (a0 : a ≠ 0) (s0 : s.re ≠ 0) (lv : Led b 0 m (1, 0, 0) v) (hb : b ≤ 1000) :
    AgS 1 K (.tup [.str "places", .int 1, .tup [pD v]]) := by
  obtain ⟨X, hX⟩ := sq_ex qK
  have qX := qK.pr qK hX
  rw [show ((1 : Int) + 1) % 2 = 0 from rfl] at qX
  obtain ⟨u', u0, eX⟩ := sq_of e0 eK hX
  have g0 : (dtG m).cj ≠ 0 := Gi.cj_ne d0
  have N0 := Gi.nm_pos a0
  rw [ee_set, show scl (dtG m).cj (io a.nm, a * io (2 * s.re), 0, io a.nm) = ((dtG m).cj * io a.nm, (dtG m).cj * (a * io (2 * s.re)), 0, (dtG m).cj * io a.nm) by unfold scl; simp only [Prod.mk.injEq, true_and, and_true]; grind] at eX
  have x1 : X ≠ g1 := fun z => by
    rw [z] at eX
    exact Gi.mul_ne g0 (Gi.mul_ne a0 (io_ne (by omega))) (cg_stays d0 eX)
  have l0 : lvG X = 0 := by
    have h := cg_lv m ((dtG m).cj * io a.nm) ((dtG m).cj * (a * io (2 * s.re)))
    rw [eX, lv_scl] at h
    exact (Gi.mul_zero' h).resolve_left (Gi.mul_ne u0 u0)
  have k1 : Kpt X v := (Kpt.scl u0).mp (by rw [← eX]; exact cg_kept (led_e1 lv))
  have m1 : KpM K v := (KpM.scl e0).mp (by rw [← eK]; exact cnM_kept1 (.inl rfl) (led_e1 lv))
  have hw : WdM K X "settles" := .inr ⟨x1, .inl rfl, fun a q hq => (kd_settles qX.dt hq).mpr l0⟩
  refine ag_mirrored qK hn hX hw (by decide +kernel) (s := 1) smD_v.2.2.1 (.inr (.inl rfl)) (.inr (.inr (.inl ⟨v, rfl, lv.pt.mono (by omega)⟩))) fun T k z => ?_
  refine w_spKept (G := fun ps => ps = [v]) (a := 1000) qK hX x1 hw (by omega) (fun ps hps => ?_) (by decide) (fun {T k} y => w_plain_kept1 qX (by omega) x1 lv.pt k1 l0 (y [v] rfl)) fun ps hps => ?_
  · rw [hps]
    exact ⟨by simp, fun q hq => by rw [List.mem_singleton.mp hq]; exact lv.pt.mono hb⟩
  · rw [hps]
    have fl : [v].filter (fun p => decide (KpM K p)) = [v] := by
      rw [List.filter_eq_self]
      intro q hq
      rw [List.mem_singleton.mp hq]
      exact decide_eq_true m1
    rw [fl]
    exact z

def rk1 (K : G4) : R4 := (K.2.2.1.re, K.2.2.2.re - K.1.re, -K.2.2.2.im - K.1.im, -K.2.1.re)
def rk2 (K : G4) : R4 := (K.2.2.1.im, K.2.2.2.im - K.1.im, K.2.2.2.re + K.1.re, -K.2.1.im)
theorem rk_mm {c : Gi} {K : G4} {r : R4} (e : MM r = scl c K) : mulR c.nm (rk1 K) = mulR (2 * c.re) r ∧ mulR c.nm (rk2 K) = mulR (-(2 * c.im)) r := by
  obtain ⟨q, l, m, k⟩ := r
  obtain ⟨⟨a, a'⟩, ⟨b, b'⟩, ⟨d, d'⟩, ⟨f, f'⟩⟩ := K
  obtain ⟨x, y⟩ := c
  unfold MM scl at e
  simp only [Prod.mk.injEq] at e
  obtain ⟨e1, e2, e3, e4⟩ := e
  have p1 := congrArg Gi.re e1
  have p2 := congrArg Gi.im e1
  have p3 := congrArg Gi.re e2
  have p4 := congrArg Gi.im e2
  have p5 := congrArg Gi.re e3
  have p6 := congrArg Gi.im e3
  have p7 := congrArg Gi.re e4
  have p8 := congrArg Gi.im e4
  simp only [Gi.mul_re, Gi.mul_im] at p1 p2 p3 p4 p5 p6 p7 p8
  clear e1 e2 e3 e4
  unfold mulR rk1 rk2 Gi.nm
  simp only [Prod.mk.injEq]
  refine ⟨⟨?_, ?_, ?_, ?_⟩, ?_, ?_, ?_, ?_⟩ <;> grind
theorem mulR_0 (x : R4) : mulR 0 x = (0, 0, 0, 0) := by unfold mulR; simp only [Int.zero_mul]
theorem mulR_z {g : Int} {x : R4} (g0 : g ≠ 0) (e : mulR g x = (0, 0, 0, 0)) : x = (0, 0, 0, 0) := by
  obtain ⟨a, b, c, d⟩ := x
  unfold mulR at e
  simp only [Prod.mk.injEq] at e ⊢
  obtain ⟨e1, e2, e3, e4⟩ := e
  exact ⟨(Int.mul_eq_zero.mp e1).resolve_left g0, (Int.mul_eq_zero.mp e2).resolve_left g0, (Int.mul_eq_zero.mp e3).resolve_left g0, (Int.mul_eq_zero.mp e4).resolve_left g0⟩
theorem rk_bnd {N g : Int} {x r : R4} (N0 : N ≠ 0) (e : mulR N x = mulR g r) (g0 : g ≠ 0) (hb : 0 < bnd r) : bnd x ≠ 0 := fun z => by
  have := congrArg bnd e
  rw [bnd_mulR, bnd_mulR, z, Int.mul_zero] at this
  have := Int.mul_pos (a := g * g) (by rcases Int.lt_or_gt_of_ne g0 with z | z; exact Int.mul_pos_of_neg_of_neg z z; exact Int.mul_pos z z) hb
  omega
theorem w_rows_kept {T : Tk} {f : Int} {K : G4} {k : KD} (h : k (.lst [rD (rk1 K), rD (rk2 K)]) T) : sm_rows_kept [.val (mD f K)] T k := by
  rw [e_rows_kept, b_rows_kept]
  walk_at "wk"
  exact h
theorem w_first_aboveX {T : Tk} {n l : Nat} {x r : R4} {N g : Int} {k : KD} (s : S4 n x) (hn : n ≤ 9000) (hr : Rd l r) (N0 : N ≠ 0) (g0 : g ≠ 0) (e : mulR N x = mulR g r) (h : k (rD r) T) : sm_first_above [.val (rD x)] T k := by
  have b0 := rk_bnd N0 e g0 hr.bend
  refine w_first_aboveM (n := n) (a := x.1) (b := x.2.1) (c := x.2.2.1) (d := x.2.2.2) b0 s.s1 s.s2 s.s3 s.s4 hn fun t h' h0 et ht => ?_
  have et : x = mulR h' t := et
  rw [et, mulR_mulR] at e
  have hrd : Rd n t := ht.rd (by
    have := congrArg bnd e
    rw [bnd_mulR, bnd_mulR] at this
    have p1 := Int.mul_pos (a := g * g) (by rcases Int.lt_or_gt_of_ne g0 with z | z; exact Int.mul_pos_of_neg_of_neg z z; exact Int.mul_pos z z) hr.bend
    rcases Int.lt_or_le 0 (bnd t) with o | o
    · exact o
    · have := Int.mul_nonpos_of_nonneg_of_nonpos (mul_self_nonneg' (N * h')) o
      omega)
  rw [rd_mulR hrd hr (Int.mul_ne_zero N0 h0) g0 e]
  exact h
theorem w_row_of_mirror {T : Tk} {n l : Nat} {r : R4} {f : Int} {K : G4} {k : KD} (hr : Rd n r) (hK : Fm l (MM r) K) (hl : l ≤ 3000) (h : k (rD r) T) : sm_row_of_mirror [.val (mD f K)] T k := by
  obtain ⟨c, c0, ec⟩ := hK.c
  obtain ⟨k1, k2⟩ := rk_mm ec
  have N0 := Gi.nm_pos c0
  have sz : ∀ {a : Gi}, Nz l a → Sz l a.re ∧ Sz l a.im := fun h => h.sz
  obtain ⟨a1, a2⟩ := hK.s1.sz
  obtain ⟨b1, b2⟩ := hK.s2.sz
  obtain ⟨c1, c2⟩ := hK.s3.sz
  obtain ⟨d1, d2⟩ := hK.s4.sz
  have s1 : S4 (l + 1) (rk1 K) := ⟨c1.mono (by omega), (d1.sub a1).mono (by omega), (d2.neg.sub a2).mono (by omega), b1.neg.mono (by omega)⟩
  have s2 : S4 (l + 1) (rk2 K) := ⟨c2.mono (by omega), (d2.sub a2).mono (by omega), (d1.add a1).mono (by omega), b2.neg.mono (by omega)⟩
  rw [e_row_of_mirror, b_row_of_mirror]
  walk_at "wk"
  refine w_rows_kept ?_
  have dz : ∀ x : R4, (decide (x.1 = 0) && (decide (x.2.1 = 0) && (decide (x.2.2.1 = 0) && decide (x.2.2.2 = 0)))) = decide (x = (0, 0, 0, 0)) := fun x => r4_dc x (0, 0, 0, 0)
  walk_at "wk"
  rw [dz]
  by_cases z1 : rk1 K = (0, 0, 0, 0)
  · refine iteB_p (decide_eq_true z1) ?_
    walk_at "wk"
    rw [dz]
    have x0 : c.re = 0 := by
      rw [z1] at k1
      have : mulR (2 * c.re) r = (0, 0, 0, 0) := by rw [← k1]; unfold mulR; simp only [Int.mul_zero]
      rcases Decidable.em (2 * c.re = 0) with z | z
      · omega
      · have := mulR_z z this
        have hb := hr.bend
        rw [this] at hb
        exact absurd hb (by decide)
    have y0 : c.im ≠ 0 := fun z => c0 (Gi.ext' x0 z)
    have z2 : rk2 K ≠ (0, 0, 0, 0) := fun z => by
      rw [z] at k2
      have : mulR (-(2 * c.im)) r = (0, 0, 0, 0) := by rw [← k2]; unfold mulR; simp only [Int.mul_zero]
      have := mulR_z (by omega) this
      have hb := hr.bend
      rw [this] at hb
      exact absurd hb (by decide)
    refine iteB_n (decide_eq_false z2) ?_
    walk_at "wk"
    exact w_first_aboveX s2 (by omega) hr (by omega) (show -(2 * c.im) ≠ 0 by omega) k2 h
  · refine iteB_n (decide_eq_false z1) ?_
    have x0 : c.re ≠ 0 := fun z => z1 (mulR_z (show c.nm ≠ 0 by omega) (by rw [k1, z]; exact mulR_0 r))
    walk_at "wk"
    rw [dz]
    refine iteB_of (fun _ => ?_) (fun _ => ?_)
    · walk_at "wk"
      exact w_first_aboveX s1 (by omega) hr (by omega) (show 2 * c.re ≠ 0 by omega) k1 h
    · walk_at "wk"
      exact w_first_aboveX s1 (by omega) hr (by omega) (show 2 * c.re ≠ 0 by omega) k1 h
theorem w_step_between {T : Tk} {n l : Nat} {f g : Int} {m m' : G4} {k : KD} (hm : Mq n f m) (hm' : Mq l g m') (hn : l + n ≤ 1890) (h : ∀ b x, Fm l (Bk g m') b → Fm (l + n + 2) (Pr g b m) x → k (mD ((g + f) % 2) x) T) : sm_step_between [.val (mD f m), .val (mD g m')] T k := by
  rw [e_step_between, b_step_between]
  walk_at "wk"
  refine w_way_back hm' (by omega) fun b hb => ?_
  walk_at "wk"
  refine w_joined (hm'.bk hb) hm (by omega) fun x hx => ?_
  walk_at "wk"
  exact h b x hb hx
theorem mir_kind {T : Tk} {n l : Nat} {r : R4} {K : G4} {k : KD} (b0 : 0 < bnd r) (hK : Fm l (MM r) K) (qK : Mq n 1 K) (hn : n ≤ 400) (h : k (.str "mirror") T) : sm_kind [.val (mD 1 K)] T k := by
  obtain ⟨X, hX⟩ := sq_ex qK
  obtain ⟨rfl, s⟩ := mir_facts b0 hK hX
  refine w_kindS qK hX hn ?_
  rw [if_pos s]
  exact h
theorem one_kind {T : Tk} {k : KD} (h : k (.str "stays") T) : sm_kind [.val (mD 0 g1)] T k := by
  obtain ⟨l, q, hq⟩ := hg_ex (z := trG g1 * trG g1) Mq.g1.dt
  refine w_kindP Mq.g1 (by decide) hq ?_
  unfold kdM
  rw [if_pos rfl]
  exact h
theorem mD_dc {f : Int} {K : G4} {g : Int} {M : G4} : eqD (mD f K) (mD g M) = decide (f = g ∧ K = M) := by
  obtain ⟨⟨a, a'⟩, ⟨b, b'⟩, ⟨c, c'⟩, ⟨d, d'⟩⟩ := K
  obtain ⟨⟨p, p'⟩, ⟨q, q'⟩, ⟨r, r'⟩, ⟨s, s'⟩⟩ := M
  simp only [mD, gD, eqD_tup, eqDL_cons, eqDL_nil, eqD_int, Bool.and_true, Prod.mk.injEq, Bool.decide_and, Gi.mk.injEq]
theorem mD_ch {f : Int} {K : G4} {g : Int} {M : G4} : (decide (g = f) && (decide (M.1.re = K.1.re) && decide (M.1.im = K.1.im) && (decide (M.2.1.re = K.2.1.re) && decide (M.2.1.im = K.2.1.im) && (decide (M.2.2.1.re = K.2.2.1.re) && decide (M.2.2.1.im = K.2.2.1.im) && (decide (M.2.2.2.re = K.2.2.2.re) && decide (M.2.2.2.im = K.2.2.2.im)))))) = decide (f = g ∧ K = M) := by
  obtain ⟨⟨a, a'⟩, ⟨b, b'⟩, ⟨c, c'⟩, ⟨d, d'⟩⟩ := K
  obtain ⟨⟨p, p'⟩, ⟨q, q'⟩, ⟨r, r'⟩, ⟨s, s'⟩⟩ := M
  simp only [Prod.mk.injEq, Bool.decide_and, Gi.mk.injEq, eq_comm (a := p), eq_comm (a := p'), eq_comm (a := q), eq_comm (a := q'), eq_comm (a := r), eq_comm (a := r'), eq_comm (a := s), eq_comm (a := s'), eq_comm (a := g)]
theorem fEq_mD {f : Int} {K : G4} {g : Int} {M : G4} {k : D → Prop} (h : k (.bl (decide (f = g ∧ K = M)))) : pdK (fEq (mD f K) (mD g M)) k := by
  rw [← mD_dc] at h
  exact ⟨⟨ok_mD, ok_mD⟩, h⟩
def rimOf : D → D
  | .tup [.str _, x] => x
  | _ => .non
theorem w_agreement {T : Tk} {n l : Nat} {f g F : Int} {m m' K : G4} {due : D} {k : KD} (hm : Mq n f m) (hm' : Mq l g m') (hn : l + n ≤ 1890) (eF : (g + f) % 2 = F) (hK : ∀ b x, Fm l (Bk g m') b → Fm (l + n + 2) (Pr g b m) x → x = K) (qK : Mq 300 F K) (hA : AgS F K due) (h : k due T) : sm_agreement [.val (mD f m), .val (mD g m')] T k := by
  rw [e_agreement, b_agreement]
  walk_at "wk"
  refine w_check_map hm (by omega) ?_
  walk_at "wk"
  refine w_check_map hm' (by omega) ?_
  walk_at "wk"
  refine w_step_between hm hm' hn fun b x hb hx => ?_
  obtain rfl := hK b x hb hx
  rw [eF]
  walk_at "wk"
  rw [show k_STAYS = mD 0 g1 from rfl]
  refine fEq_mD ?_
  cases hA with
  | all h1 h2 =>
    subst h1
    rw [decide_eq_true ⟨rfl, h2⟩]
    walk_at "wk"
    exact h
  | rnd r l' hr hn' hl h1 hK' =>
    subst h1
    rw [decide_eq_false (fun z => absurd z.1 (by decide))]
    walk_at "wk"
    refine mir_kind hr.bend hK' qK (by decide) ?_
    walk_at "wk"
    refine w_row_of_mirror hr hK' (by omega) ?_
    walk_at "wk"
    exact h
  | pls w s P st nm nw hs kp kd sg sp =>
    rw [decide_eq_false (fun z => st z.1 z.2)]
    walk_at "wk"
    refine kd _ _ ?_
    walk_at "wk"
    refine iteB_n (decide_eq_false nw) ?_
    walk_at "wk"
    refine sg _ _ ?_
    walk_at "wk"
    refine sp _ _ ?_
    walk_at "wk"
    exact h
theorem w_agree_on {T : Tk} {n l p : Nat} {f g F : Int} {m m' K : G4} {r : R4} {k : KD} (hm : Mq n f m) (hm' : Mq l g m') (hr : Rd p r) (hp : p ≤ 800) (hn : l + n ≤ 1890) (eF : (g + f) % 2 = F) (hK : ∀ b x, Fm l (Bk g m') b → Fm (l + n + 2) (Pr g b m) x → x = K) (h : ∀ c, Fm (2 * p + 10) (MM r) c → k (.bl (decide (F = 0 ∧ K = g1) || decide (F = 1 ∧ K = c))) T) : sm_agree_on [.val (mD f m), .val (mD g m'), .val (rD r)] T k := by
  rw [e_agree_on, b_agree_on]
  walk_at "wk"
  refine w_check_map hm (by omega) ?_
  walk_at "wk"
  refine w_check_map hm' (by omega) ?_
  walk_at "wk"
  refine w_check_round hr (by omega) ?_
  walk_at "wk"
  refine w_step_between hm hm' hn fun b x hb hx => ?_
  obtain rfl := hK b x hb hx
  rw [eF]
  walk_at "wk"
  refine w_mirror_of hr (by omega) fun c hc => ?_
  rw [show k_STAYS = mD 0 g1 from rfl]
  have hh := h c hc
  walk_at "wk"
  rw [mD_ch (f := F) (K := x) (g := 0) (M := g1), mD_ch (f := F) (K := x) (g := 1) (M := c)]
  exact hh
theorem w_mirror_round {T : Tk} {n : Nat} {f : Int} {K : G4} {due : D} {k : KD} (qK : Mq n f K) (hn : n ≤ 300) (hA : AgS f K due) (h : k (rimOf due) T) : sm_mirror_round [.val (mD f K)] T k := by
  rw [e_mirror_round, b_mirror_round]
  walk_at "wk"
  refine w_check_map qK (by omega) ?_
  walk_at "wk"
  cases hA with
  | all h1 h2 =>
    subst h1 h2
    refine one_kind ?_
    walk_at "wk"
    exact h
  | rnd r l' hr hn' hl h1 hK' =>
    subst h1
    refine mir_kind hr.bend hK' qK (by omega) ?_
    walk_at "wk"
    refine w_row_of_mirror hr hK' (by omega) ?_
    walk_at "wk"
    exact h
  | pls w s P st nm nw hs kp kd sg sp =>
    refine kd _ _ ?_
    walk_at "wk"
    refine iteB_n (decide_eq_false nw) ?_
    walk_at "wk"
    exact h

/-- which places a plain map that does not stay keeps, by its numbers -/
def PkD (N : G4) (P : D) : Prop :=
  (N.2.2.1 = 0 ∧ N.1 = N.2.2.2 ∧ P = .tup [pD (1, 0, 0)]) ∨ (N.2.2.1 = 0 ∧ N.1 ≠ N.2.2.2 ∧ ∃ n q, n ≤ 1000 ∧ HG n q N.2.1 (N.2.2.2 - N.1) ∧ P = ordT (1, 0, 0) q) ∨ (N.2.2.1 ≠ 0 ∧ (∀ w, w * w ≠ lvG N) ∧ P = .tup []) ∨
  (N.2.2.1 ≠ 0 ∧ ∃ w n f g, n ≤ 1000 ∧ w * w = lvG N ∧ HG n f (N.1 - N.2.2.2 + w) (N.2.2.1 + N.2.2.1) ∧ HG n g (N.1 - N.2.2.2 - w) (N.2.2.1 + N.2.2.1) ∧ P = if f = g then .tup [pD f] else ordT f g)
theorem sq_pm {a b : Gi} (h : a * a = b * b) : a = b ∨ a = -b := by
  have : (a - b) * (a + b) = 0 := by grind
  rcases Gi.mul_zero' this with z | z
  · exact .inl (by clear h this; grind)
  · exact .inr (by clear h this; grind)
theorem dbl_ne0 {c : Gi} (c0 : c ≠ 0) : c + c ≠ 0 := dbl_ne c0
theorem w_pk {T : Tk} {n : Nat} {N K : G4} {e : Gi} {P : D} {k : KD} (qK : Mq n 0 K) (hn : n ≤ 400) (e0 : e ≠ 0) (eN : N = scl e K) (hP : PkD N P) (h : k P T) : sm_plain_kept [.val (mD 0 K)] T k := by
  have lv : lvG N = e * e * lvG K := by rw [eN, lv_scl]
  have n1 : N.1 = e * K.1 := by rw [eN]; rfl
  have n2 : N.2.1 = e * K.2.1 := by rw [eN]; rfl
  have n3 : N.2.2.1 = e * K.2.2.1 := by rw [eN]; rfl
  have n4 : N.2.2.2 = e * K.2.2.2 := by rw [eN]; rfl
  have cz : K.2.2.1 = 0 ↔ N.2.2.1 = 0 := by rw [n3]; exact ⟨fun z => by rw [z]; grind, fun z => (Gi.mul_zero' z).resolve_left e0⟩
  have ce : K.1 = K.2.2.2 ↔ N.1 = N.2.2.2 := by rw [n1, n4]; exact ⟨fun z => by rw [z], fun z => Gi.cancel e0 z⟩
  clear eN
  refine w_plain_kept qK (by omega) (fun c0 ad => ?_) (fun c0 ad q' hq' far => ?_) (fun c0 hr => ?_) (fun c0 w' hw f' g' hf' hg' => ?_)
  · rcases hP with ⟨_, _, rfl⟩ | ⟨_, z, _⟩ | ⟨z, _⟩ | ⟨z, _⟩
    · exact h
    · exact absurd (ce.mp ad) z
    · exact absurd (cz.mp c0) z
    · exact absurd (cz.mp c0) z
  · rcases hP with ⟨_, z, _⟩ | ⟨_, _, a, q, _, hq, rfl⟩ | ⟨z, _⟩ | ⟨z, _⟩
    · exact absurd (ce.mpr z) ad
    · have : q = q' := by
        refine HG.uniq (hq.tr (z' := K.2.1) (w' := K.2.2.2 - K.1) hq'.nz ?_) hq'
        rw [n1, n2, n4]
        grind
      rw [← this]
      exact h
    · exact absurd (cz.mp c0) z
    · exact absurd (cz.mp c0) z
  · rcases hP with ⟨z, _⟩ | ⟨z, _⟩ | ⟨_, _, rfl⟩ | ⟨_, w, a, f, g, _, hw, _⟩
    · exact absurd (cz.mpr z) c0
    · exact absurd (cz.mpr z) c0
    · exact h
    · exfalso
      obtain ⟨u, hu⟩ := sq_int (l := lvG K) (w := e) (e := w) e0 (by rw [hw, lv]; grind)
      obtain ⟨w'', hw'', _⟩ := croot_sq hu
      rw [hr] at hw''
      cases hw''
  · have ew := croot_isq hw
    rcases hP with ⟨z, _⟩ | ⟨z, _⟩ | ⟨_, z, _⟩ | ⟨_, w, a, f, g, _, hw2, hf, hg, rfl⟩
    · exact absurd (cz.mpr z) c0
    · exact absurd (cz.mpr z) c0
    · exact absurd (by rw [lv, ← ew]; grind) (z (e * pG w'))
    · have s2 : w * w = (e * pG w') * (e * pG w') := by rw [hw2, lv, ← ew]; grind
      rw [n1, n3, n4] at hf hg
      rcases sq_pm s2 with z | z
      · rw [z] at hf hg
        have e1 : f = f' := HG.uniq (hf.tr hf'.nz (by clear s2 lv ew hw2 hf hg; grind)) hf'
        have e2 : g = g' := HG.uniq (hg.tr hg'.nz (by clear s2 lv ew hw2 hf hg; grind)) hg'
        rw [← e1, ← e2]
        exact h
      · rw [z] at hf hg
        have e1 : f = g' := HG.uniq (hf.tr hg'.nz (by clear s2 lv ew hw2 hf hg; grind)) hg'
        have e2 : g = f' := HG.uniq (hg.tr hf'.nz (by clear s2 lv ew hw2 hf hg; grind)) hf'
        rw [← e1, ← e2]
        by_cases fg : f = g
        · subst fg
          exact h
        · rw [if_neg fg] at h
          rw [if_neg (Ne.symm fg), ord_comm (Ne.symm fg)]
          exact h
theorem PkD.adj {N : G4} {P : D} (h : PkD N P) : PkD (adjm N) P := by
  have lv : lvG (adjm N) = lvG N := by unfold lvG adjm; grind
  unfold PkD
  rw [lv]
  unfold adjm
  simp only
  have nz : ∀ c : Gi, c ≠ 0 → -c ≠ 0 := fun c h z => h (by grind)
  rcases h with ⟨z, e, rfl⟩ | ⟨z, ne, n, q, hn, hq, rfl⟩ | ⟨z, ns, rfl⟩ | ⟨z, w, n, f, g, hn, hw, hf, hg, rfl⟩
  · exact .inl ⟨by rw [z]; grind, e.symm, rfl⟩
  · refine .inr (.inl ⟨by rw [z]; grind, Ne.symm ne, n, q, hn, hq.tr (fun y => hq.nz ⟨?_, ?_⟩) (by grind), rfl⟩)
    · have := y.1; clear hq; grind
    · have := y.2; clear hq; grind
  · exact .inr (.inr (.inl ⟨nz _ z, ns, rfl⟩))
  · refine .inr (.inr (.inr ⟨nz _ z, -w, n, f, g, hn, by rw [← hw]; grind, hf.tr (fun y => hf.nz ⟨?_, ?_⟩) (by grind), hg.tr (fun y => hg.nz ⟨?_, ?_⟩) (by grind), rfl⟩))
    · have := y.1; clear hf hg hw; grind
    · have := y.2; clear hf hg hw; grind
    · have := y.1; clear hf hg hw; grind
    · have := y.2; clear hf hg hw; grind
theorem pk_kpl {N : G4} {P : D} (h : PkD N P) : KPl P := by
  rcases h with ⟨_, _, rfl⟩ | ⟨_, _, a, q, ha, hq, rfl⟩ | ⟨_, _, rfl⟩ | ⟨_, w, a, f, g, ha, _, hf, hg, rfl⟩
  · exact .inr (.inr (.inl ⟨_, rfl, pt_far (by decide)⟩))
  · exact kpl_ord (pt_far (by decide)) (hq.pt.mono (by omega))
  · exact .inr (.inl rfl)
  · split
    · exact .inr (.inr (.inl ⟨_, rfl, hf.pt.mono (by omega)⟩))
    · exact kpl_ord (hf.pt.mono (by omega)) (hg.pt.mono (by omega))
theorem ag_any {n : Nat} {N K : G4} {e : Gi} {P : D} (qK : Mq n 0 K) (hn : n ≤ 400) (e0 : e ≠ 0) (eN : N = scl e K) (x1 : K ≠ g1) (hP : PkD N P) : AgS 0 K (.tup [.str "places", .int (if lvG N = 0 then 1 else 2), P]) := by
  have e1 : lvG N = 0 ↔ lvG K = 0 := by
    rw [eN, lv_scl]
    exact ⟨fun z => (Gi.mul_zero' z).resolve_left (Gi.mul_ne e0 e0), fun z => by rw [z]; grind⟩
  have := ag_plain (P := P) qK hn x1 (pk_kpl hP) (fun T k h => w_pk qK hn e0 eN hP h)
  rw [show (if lvG N = 0 then (1 : Int) else 2) = if lvG K = 0 then 1 else 2 by simp only [e1]]
  exact this
/-- the map that leads three places to 0, the far place and 1 -/
def th1 (v w : P3) : Gi := rG v * zG w - rG w * zG v
def LdT (u v w : P3) : G4 := (rG u * th1 v w, -(zG u * th1 v w), rG v * th1 u w, -(zG v * th1 u w))
theorem th_ne {a b : Nat} {v w : P3} (hv : Pt a v) (hw : Pt b w) (ne : v ≠ w) : th1 v w ≠ 0 := fun z => ne (by
  have h1 := HG.self hv
  have h2 := HG.self hw
  refine HG.uniq (h1.tr h2.nz ?_) h2
  unfold th1 at z
  clear h1 h2
  grind)
theorem l3_dt {a b c : Nat} {u v w : P3} (hu : Pt a u) (hv : Pt b v) (hw : Pt c w) (uv : u ≠ v) (uw : u ≠ w) (vw : v ≠ w) : dtG (LdT u v w) ≠ 0 := fun z => by
  have h1 := th_ne hu hv uv
  have h2 := th_ne hv hw vw
  have h3 := th_ne hu hw uw
  have e : dtG (LdT u v w) = -(th1 v w * th1 u w * th1 u v) := by
    unfold dtG LdT
    simp only
    generalize th1 v w = A
    generalize th1 u w = B
    unfold th1
    clear z h1 h2 h3
    grind
  rw [e] at z
  exact Gi.mul_ne (Gi.mul_ne h2 h3) h1 (by clear e h1 h2 h3; grind)
theorem l3_led {a b c : Nat} {u v w : P3} (hu : Pt a u) (hv : Pt b v) (hw : Pt c w) (uw : u ≠ w) (vw : v ≠ w) : Led a 0 (adjm (LdT u v w)) (0, 0, 1) u ∧ Led b 0 (adjm (LdT u v w)) (1, 0, 0) v := by
  have h2 := th_ne hv hw vw
  have h3 := th_ne hu hw uw
  have s1 := HG.self hu
  have s2 := HG.self hv
  unfold Led
  rw [show apz (adjm (LdT u v w)) (fl 0 (zG (0, 0, 1))) (rG (0, 0, 1)) = zG u * th1 v w by unfold apz adjm LdT; rw [show fl 0 (zG (0, 0, 1)) = 0 from rfl, show rG (0, 0, 1) = 1 from rfl]; simp only; grind,
    show apw (adjm (LdT u v w)) (fl 0 (zG (0, 0, 1))) (rG (0, 0, 1)) = rG u * th1 v w by unfold apw adjm LdT; rw [show fl 0 (zG (0, 0, 1)) = 0 from rfl, show rG (0, 0, 1) = 1 from rfl]; simp only; grind,
    show apz (adjm (LdT u v w)) (fl 0 (zG (1, 0, 0))) (rG (1, 0, 0)) = -(zG v * th1 u w) by unfold apz adjm LdT; rw [show fl 0 (zG (1, 0, 0)) = 1 from rfl, show rG (1, 0, 0) = 0 from rfl]; simp only; grind,
    show apw (adjm (LdT u v w)) (fl 0 (zG (1, 0, 0))) (rG (1, 0, 0)) = -(rG v * th1 u w) by unfold apw adjm LdT; rw [show fl 0 (zG (1, 0, 0)) = 1 from rfl, show rG (1, 0, 0) = 0 from rfl]; simp only; grind]
  refine ⟨s1.tr (fun z => s1.nz ⟨(Gi.mul_zero' z.1).resolve_right h2, (Gi.mul_zero' z.2).resolve_right h2⟩) (by clear s1 s2; grind), s2.tr (fun z => s2.nz ⟨?_, ?_⟩) (by clear s1 s2; grind)⟩
  · exact (Gi.mul_zero' (show zG v * th1 u w = 0 by have := z.1; clear s1 s2; grind)).resolve_right h3
  · exact (Gi.mul_zero' (show rG v * th1 u w = 0 by have := z.2; clear s1 s2; grind)).resolve_right h3
theorem l3_n4 {u v w : P3} (hu : Pt 13 u) (hv : Pt 13 v) (hw : Pt 13 w) : N4 90 (LdT u v w) := by
  have z : ∀ {p : P3}, Pt 13 p → Nz 28 (zG p) ∧ Nz 28 (rG p) := fun h => ⟨nz_of h.s1 h.s2, nz_of h.s3 (by unfold Sz; decide)⟩
  have th : ∀ {p q : P3}, Pt 13 p → Pt 13 q → Nz 58 (th1 p q) := fun {p q} hp hq => by
    have := Nz.add ((z hp).2.mul (z hq).1) ((z hq).2.mul (z hp).1).neg
    rw [show rG p * zG q + -(rG q * zG p) = th1 p q by unfold th1; grind] at this
    exact this
  exact ⟨((z hu).2.mul (th hv hw)).mono (by decide), ((z hu).1.mul (th hv hw)).neg.mono (by decide), ((z hv).2.mul (th hu hw)).mono (by decide), ((z hv).1.mul (th hu hw)).neg.mono (by decide)⟩
theorem scG_r (p : P3) (a : Gi) : scG p.2.2 a = rG p * a := Gi.ext' (by unfold scG rG; simp only [Gi.mul_re]; omega) (by unfold scG rG; simp only [Gi.mul_im]; omega)
theorem w__law_nonzero {T : Tk} {w : Int} {k : KD} (hT : TkS T) (w1 : 1 ≤ w) (w2 : w ≤ 1000) (h : ∀ (a : Gi) T', a ≠ 0 → Nz 22 a → TkS T' → k (gD a) T') : sm__law_nonzero [.tank, .val (.int w)] T k := by
  have sz : ∀ a b : Int, -w ≤ a → a ≤ w → -w ≤ b → b ≤ w → Nz 22 ⟨a, b⟩ := fun a b h1 h2 h3 h4 => by
    have e : ∀ x : Int, -w ≤ x → x ≤ w → x * x ≤ 1000000 := fun x h1 h2 => by
      have p : 0 ≤ (1000 - x) * (1000 + x) := Int.mul_nonneg (by omega) (by omega)
      have q : (1000 - x) * (1000 + x) = 1000000 - x * x := by grind
      omega
    have := e a h1 h2
    have := e b h3 h4
    unfold Nz Gi.nm
    simp only
    have : (2 : Int) ^ 22 = 4194304 := by decide
    omega
  rw [e__law_nonzero, b__law_nonzero]
  walk_at "wk"
  refine w__law_whole hT (by omega) (by omega) fun a T1 _ _ ha hT1 => ?_
  obtain ⟨a1, a2⟩ := ha w2
  walk_at "wk"
  refine w__law_whole hT1 (by omega) (by omega) fun b T2 _ _ hb hT2 => ?_
  obtain ⟨b1, b2⟩ := hb w2
  walk_at "wk"
  have dz := dec_gi (a := ⟨a, b⟩)
  simp only at dz
  rw [dz]
  by_cases z : (⟨a, b⟩ : Gi) = 0
  · refine iteB_p (decide_eq_true z) ?_
    walk_at "wk"
    exact h ⟨0 - w, 1⟩ T2 (fun y => absurd (show (1 : Int) = 0 from congrArg Gi.im y) (by decide)) (sz _ _ (by omega) (by omega) (by omega) (by omega)) hT2
  · refine iteB_n (decide_eq_false z) ?_
    walk_at "wk"
    exact h ⟨a, b⟩ T2 z (sz a b a1 a2 b1 b2) hT2
theorem w__law_three {T : Tk} {u v w : P3} {k : KD} (hu : Pt 13 u) (hv : Pt 13 v) (hw : Pt 13 w) (h : k (mD 0 (LdT u v w)) T) : sm__law_three [.val (pD u), .val (pD v), .val (pD w)] T k := by
  have cz : ∀ {p : P3}, Pt 13 p → Cz 13 ((zG p).re, (zG p).im) := fun h => ⟨h.s1, h.s2⟩
  have th : ∀ {p q : P3}, Pt 13 p → Pt 13 q → Cz 58 ((th1 p q).re, (th1 p q).im) := fun {p q} hp hq => by
    have z : ∀ {p : P3}, Pt 13 p → Nz 28 (zG p) ∧ Nz 28 (rG p) := fun h => ⟨nz_of h.s1 h.s2, nz_of h.s3 (by unfold Sz; decide)⟩
    have := Nz.add ((z hp).2.mul (z hq).1) ((z hq).2.mul (z hp).1).neg
    rw [show rG p * zG q + -(rG q * zG p) = th1 p q by unfold th1; grind] at this
    exact this.cz
  rw [e__law_three, b__law_three]
  walk_at "wk"
  refine w__law_scaledG (a := zG w) hv.s3 (cz hw) (by decide) (by decide) ?_
  walk_at "wk"
  refine w__law_scaledG (a := zG v) hw.s3 (cz hv) (by decide) (by decide) ?_
  walk_at "wk"
  refine w__law_minusU ?_
  walk_at "wk"
  refine w__law_plusG ?_
  rw [scG_r, scG_r, show rG v * zG w + -(rG w * zG v) = th1 v w by unfold th1; grind]
  walk_at "wk"
  refine w__law_scaledG (a := zG w) hu.s3 (cz hw) (by decide) (by decide) ?_
  walk_at "wk"
  refine w__law_scaledG (a := zG u) hw.s3 (cz hu) (by decide) (by decide) ?_
  walk_at "wk"
  refine w__law_minusU ?_
  walk_at "wk"
  refine w__law_plusG ?_
  rw [scG_r, scG_r, show rG u * zG w + -(rG w * zG u) = th1 u w by unfold th1; grind]
  walk_at "wk"
  refine w__law_scaledG hu.s3 (th hv hw) (by decide) (by decide) ?_
  walk_at "wk"
  refine w__law_timesG (a := zG u) (cz hu) (th hv hw) (by decide) (by decide) ?_
  walk_at "wk"
  refine w__law_minusU ?_
  walk_at "wk"
  refine w__law_scaledG hv.s3 (th hu hw) (by decide) (by decide) ?_
  walk_at "wk"
  refine w__law_timesG (a := zG v) (cz hv) (th hu hw) (by decide) (by decide) ?_
  walk_at "wk"
  refine w__law_minusU ?_
  rw [scG_r, scG_r]
  walk_at "wk"
  exact h

theorem root_two (w : Gi) : isq (w * w).nm = w.nm ∧ isq ((w.nm + (w * w).re) / 2) = iabs w.re ∧ isq ((w.nm - (w * w).re) / 2) = iabs w.im := by
  obtain ⟨h1, h2, h3, _⟩ := upper_parts (w := (w.re, w.im))
  have e1 : cnrm (cmul (w.re, w.im) (w.re, w.im)) = (w * w).nm := rfl
  have e2 : cnrm (w.re, w.im) = w.nm := rfl
  have e3 : (cmul (w.re, w.im) (w.re, w.im)).1 = (w * w).re := rfl
  rw [e1, e2] at h1
  rw [e2, e3] at h2 h3
  rw [h2, h3]
  exact ⟨h1, isq_sq (iabs_nn _), isq_sq (iabs_nn _)⟩
theorem abs_two (w : Gi) : (⟨iabs w.re, iabs w.im⟩ : Gi) * ⟨iabs w.re, iabs w.im⟩ = w * w ∨ (⟨iabs w.re, 0 - iabs w.im⟩ : Gi) * ⟨iabs w.re, 0 - iabs w.im⟩ = w * w := by
  obtain ⟨a, b⟩ := w
  simp only
  by_cases ha : 0 ≤ a <;> by_cases hb : 0 ≤ b
  · left; exact Gi.ext' (by simp only [Gi.mul_re, iabs, if_pos ha, if_pos hb]) (by simp only [Gi.mul_im, iabs, if_pos ha, if_pos hb])
  · right; exact Gi.ext' (by simp only [Gi.mul_re, iabs, if_pos ha, if_neg hb]; grind) (by simp only [Gi.mul_im, iabs, if_pos ha, if_neg hb]; grind)
  · right; exact Gi.ext' (by simp only [Gi.mul_re, iabs, if_neg ha, if_pos hb]; grind) (by simp only [Gi.mul_im, iabs, if_neg ha, if_pos hb]; grind)
  · left; exact Gi.ext' (by simp only [Gi.mul_re, iabs, if_neg ha, if_neg hb]; grind) (by simp only [Gi.mul_im, iabs, if_neg ha, if_neg hb]; grind)
theorem nm_re {z : Gi} : -isq z.nm ≤ z.re ∧ z.re ≤ isq z.nm := by
  have s := isq_spec (Gi.nm_nn z)
  have n0 := isq_nonneg z.nm
  have e : z.re * z.re ≤ z.nm := by unfold Gi.nm; have := mul_self_nonneg' z.im; omega
  generalize isq z.nm = r at *
  have : iabs z.re ≤ r := sq_le_of (iabs_nn _) n0 (by rw [iabs_sq]; omega)
  unfold iabs at this
  split at this <;> omega
theorem w__law_complex_root {T : Tk} {n : Nat} {z : Gi} {k : KD} (hz : Nz n z) (hn : n ≤ 1000) (h1 : ∀ w, w * w = z → k (gD w) T) (h2 : (∀ w, w * w ≠ z) → k .non T) : sm__law_complex_root [.val (gD z)] T k := by
  have sn := sz_nm hz
  have ss := isq_sz (Gi.nm_nn z) sn
  obtain ⟨q1, q2⟩ := nm_re (z := z)
  have cz := hz.sz
  have s1 : Sz (n + 1) ((isq z.nm + z.re) / 2) := by
    have := (ss.add cz.1).mono (show max n n + 1 ≤ n + 1 by omega)
    unfold Sz at this ⊢
    omega
  have s2 : Sz (n + 1) ((isq z.nm - z.re) / 2) := by
    have := (ss.sub cz.1).mono (show max n n + 1 ≤ n + 1 by omega)
    unfold Sz at this ⊢
    omega
  rw [e__law_complex_root, b__law_complex_root]
  walk_at "wk"
  refine w__law_normG hz.cz (by omega) ?_
  walk_at "wk"
  refine w__law_rootI (Gi.nm_nn z) sn (by omega) ?_
  walk_at "wk"
  refine ⟨lit_div (by decide) (by decide), ?_⟩
  refine w__law_rootI (by omega) s1 (by omega) ?_
  walk_at "wk"
  refine ⟨lit_div (by decide) (by decide), ?_⟩
  refine w__law_rootI (by omega) s2 (by omega) ?_
  have r1 := isq_sz (show 0 ≤ (isq z.nm + z.re) / 2 by omega) s1
  have r2 := isq_sz (show 0 ≤ (isq z.nm - z.re) / 2 by omega) s2
  have two := fun w => root_two w
  generalize hA : isq ((isq z.nm + z.re) / 2) = A at *
  generalize hB : isq ((isq z.nm - z.re) / 2) = B at *
  walk_at "wk"
  refine w__law_timesG (a := ⟨A, B⟩) (b := ⟨A, B⟩) ⟨r1, r2⟩ ⟨r1, r2⟩ (by omega) (by omega) ?_
  walk_at "wk"
  rw [gi_dcK]
  by_cases c1 : (⟨A, B⟩ : Gi) * ⟨A, B⟩ = z
  · refine iteB_p (decide_eq_true c1) ?_
    walk_at "wk"
    exact h1 ⟨A, B⟩ c1
  · refine iteB_n (decide_eq_false c1) ?_
    walk_at "wk"
    have k2 : Cz (n + 2) (A, 0 - B) := ⟨r1.mono (by omega), ((sz_0 (n := n + 1)).sub r2).mono (by omega)⟩
    refine w__law_timesG (a := ⟨A, 0 - B⟩) (b := ⟨A, 0 - B⟩) k2 k2 (by omega) (by omega) ?_
    walk_at "wk"
    rw [gi_dcK]
    by_cases c2 : (⟨A, 0 - B⟩ : Gi) * ⟨A, 0 - B⟩ = z
    · refine iteB_p (decide_eq_true c2) ?_
      walk_at "wk"
      exact h1 ⟨A, 0 - B⟩ c2
    · refine iteB_n (decide_eq_false c2) ?_
      walk_at "wk"
      refine h2 fun w e => ?_
      obtain ⟨t1, t2, t3⟩ := two w
      rw [e] at t1 t2 t3
      rw [← t1, hA] at t2
      rw [← t1, hB] at t3
      rcases abs_two w with y | y
      · exact c1 (by rw [t2, t3, y, e])
      · exact c2 (by rw [t2, t3, y, e])
/-- the inner maps -/
inductive Inn : Int → Int → G4 → Prop
  | grow (o t : Gi) (o0 : o ≠ 0) (t0 : t ≠ 0) (ne : o ≠ t) : Inn 2 0 (o, 0, 0, t)
  | shift (s : Gi) (s0 : s ≠ 0) : Inn 3 0 (1, s, 0, 1)
  | pull (o t : Gi) (o0 : o ≠ 0) (t0 : t ≠ 0) (ne : o.nm ≠ t.nm) : Inn 4 1 (o, 0, 0, t)
  | turn (o t : Gi) (o0 : o ≠ 0) (t0 : t ≠ 0) (ne : (o * t.cj).im ≠ 0 ∨ (o * t.cj).re < 0) : Inn 5 1 (0, o, t, 0)
  | set (a b : Gi) (a0 : a ≠ 0) (b0 : b.re ≠ 0) : Inn 6 1 (a, b, 0, a.cj)
theorem w__law_inner {T : Tk} {w way : Int} {few : Gi} {k : KD} (hT : TkS T) (w1 : 1 ≤ w) (w2 : w ≤ 1000) (f0 : few ≠ 0) (hf : Nz 22 few) (y1 : 2 ≤ way) (y2 : way ≤ 6) (h : ∀ f D T', Inn way f D → N4 50 D → TkS T' → k (mD f D) T') : sm__law_inner [.tank, .val (.int way), .val (gD few), .val (.int w)] T k := by
  have z0 := nz_01 (n := 50) (by decide)
  have hw : way = 2 ∨ way = 3 ∨ way = 4 ∨ way = 5 ∨ way = 6 := by omega
  have dbl : ∀ {x : Gi}, x ≠ 0 → x + x ≠ x := fun {x} x0 z => x0 (by grind)
  have up : ∀ {x : Gi}, Nz 22 x → Nz 50 x := fun h => h.mono (by decide)
  have add : ∀ {x : Gi}, Nz 22 x → Nz 50 (x + x) := fun h => (Nz.add h h).mono (by decide)
  rw [e__law_inner, b__law_inner]
  rcases hw with rfl | rfl | rfl | rfl | rfl
  · walk_at "wk"
    refine w__law_nonzero hT w1 w2 fun a T1 a0 ha hT1 => ?_
    walk_at "wk"
    rw [gi_dcK]
    by_cases c : a = few
    · refine iteB_p (decide_eq_true c) ?_
      walk_at "wk"
      refine w__law_plusG ?_
      walk_at "wk"
      exact h 0 (few + few, 0, 0, few) T1 (.grow _ _ (dbl_ne f0) f0 (dbl f0)) ⟨add hf, z0.1, z0.1, up hf⟩ hT1
    · refine iteB_n (decide_eq_false c) ?_
      walk_at "wk"
      exact h 0 (a, 0, 0, few) T1 (.grow _ _ a0 f0 c) ⟨up ha, z0.1, z0.1, up hf⟩ hT1
  · walk_at "wk"
    refine w__law_nonzero hT w1 w2 fun a T1 a0 ha hT1 => ?_
    walk_at "wk"
    exact h 0 (1, a, 0, 1) T1 (.shift a a0) ⟨z0.2, up ha, z0.1, z0.2⟩ hT1
  · walk_at "wk"
    refine w__law_nonzero hT w1 w2 fun a T1 a0 ha hT1 => ?_
    walk_at "wk"
    refine w__law_normG ha.cz (by decide) ?_
    walk_at "wk"
    refine w__law_normG hf.cz (by decide) ?_
    walk_at "wk"
    by_cases c : a.nm = few.nm
    · refine iteB_p (decide_eq_true c) ?_
      walk_at "wk"
      refine w__law_plusG ?_
      walk_at "wk"
      have ne : (a + a).nm ≠ few.nm := by
        have e : (a + a).nm = 4 * a.nm := by unfold Gi.nm; simp only [Gi.add_re, Gi.add_im]; grind
        have := Gi.nm_pos f0
        omega
      exact h 1 (a + a, 0, 0, few) T1 (.pull _ _ (dbl_ne a0) f0 ne) ⟨add ha, z0.1, z0.1, up hf⟩ hT1
    · refine iteB_n (decide_eq_false c) ?_
      walk_at "wk"
      exact h 1 (a, 0, 0, few) T1 (.pull _ _ a0 f0 c) ⟨up ha, z0.1, z0.1, up hf⟩ hT1
  · walk_at "wk"
    refine w__law_nonzero hT w1 w2 fun a T1 a0 ha hT1 => ?_
    walk_at "wk"
    have fin : ∀ b : Gi, b ≠ 0 → Nz 22 b → (b.im ≠ 0 ∨ b.re < 0) → k (mD 1 (0, few * b, few, 0)) T1 := fun b b0 hb c => by
      have nf := Gi.nm_pos f0
      have e : few * b * few.cj = io few.nm * b := by rw [show few * b * few.cj = (few * few.cj) * b by grind, nm_io]
      refine h 1 (0, few * b, few, 0) T1 (.turn _ _ (Gi.mul_ne f0 b0) f0 ?_) ⟨z0.1, (hf.mul hb).mono (by decide), up hf, z0.1⟩ hT1
      rw [e]
      have e1 : (io few.nm * b).im = few.nm * b.im := by unfold io; simp only [Gi.mul_im]; omega
      have e2 : (io few.nm * b).re = few.nm * b.re := by unfold io; simp only [Gi.mul_re]; omega
      rw [e1, e2]
      rcases c with c | c
      · exact .inl (Int.mul_ne_zero (by omega) c)
      · exact .inr (Int.mul_neg_of_pos_of_neg nf c)
    by_cases c : a.im ≠ 0 ∨ a.re < 0
    · refine iteB_p (by rcases c with c | c <;> simp [c]) ?_
      walk_at "wk"
      refine w__law_timesG hf.cz ha.cz (by decide) (by decide) ?_
      walk_at "wk"
      exact fin a a0 ha c
    · have c1 : a.im = 0 := by omega
      have c2 : ¬ a.re < 0 := by omega
      refine iteB_n (by simp [c1, c2]) ?_
      walk_at "wk"
      refine w__law_minusU ?_
      walk_at "wk"
      refine w__law_timesG hf.cz ha.neg.cz (by decide) (by decide) ?_
      walk_at "wk"
      exact fin (-a) (fun z => a0 (by grind)) ha.neg (.inr (by
        have r0 : a.re ≠ 0 := fun z => a0 (Gi.ext' z c1)
        rw [Gi.neg_re]
        omega))
  · walk_at "wk"
    refine w__law_nonzero hT w1 w2 fun a T1 a0 ha hT1 => ?_
    walk_at "wk"
    have sz : ∀ x : Int, (x = a.re ∨ x = 1) → Nz 50 ⟨x, a.im⟩ := fun x hx => by
      have h1 := ha.sz
      have : Sz 22 x := by
        rcases hx with rfl | rfl
        · exact h1.1
        · exact sz_1 (by decide)
      exact (nz_of this h1.2).mono (by decide)
    by_cases c : a.re = 0
    · refine iteB_p (decide_eq_true c) ?_
      walk_at "wk"
      refine w__law_conjG ?_
      walk_at "wk"
      exact h 1 (few, ⟨1, a.im⟩, 0, few.cj) T1 (.set few ⟨1, a.im⟩ f0 (show (1 : Int) ≠ 0 by decide)) ⟨up hf, sz 1 (.inr rfl), z0.1, (up hf).cj⟩ hT1
    · refine iteB_n (decide_eq_false c) ?_
      walk_at "wk"
      refine w__law_conjG ?_
      walk_at "wk"
      exact h 1 (few, ⟨a.re, a.im⟩, 0, few.cj) T1 (.set few ⟨a.re, a.im⟩ f0 c) ⟨up hf, sz a.re (.inl rfl), z0.1, (up hf).cj⟩ hT1
theorem forL_nl2 {tg : D → En → Tk → (En → Tk → Prop) → Prop} {b : dS} {F : dEnds} {ρ : En} {T : Tk} (h : F.nx ρ T) : forL tg b F [] ρ T := h
theorem lc_pick {A0 A1 A2 A4 A5 A6 A7 A8 A9 : Option SV} {K : List D → Tk → Prop} {fl : List P3} : ∀ (ps acc : List P3) (T : Tk), K ((acc ++ ps.filter fun p => decide (p ∉ fl)).map pD) T →
    lcK [A0, A1, A2, some (.val (.lst (fl.map pD))), A4, A5, A6, A7, A8, A9, none] (cN 10) (dViewT 3 (dTst (dOp (oF fNotInS) (dVar 10) (dVar 3)))) (dVar 10) K (ps.map pD) (acc.map pD) T
  | [], acc, T, h => by
    rw [List.filter_nil, List.append_nil] at h
    exact h
  | p :: ps, acc, T, h => by
    have ih := lc_pick (A0 := A0) (A1 := A1) (A2 := A2) (A4 := A4) (A5 := A5) (A6 := A6) (A7 := A7) (A8 := A8) (A9 := A9) (K := K) (fl := fl) ps
    rw [List.map_cons]
    walk_at "wk"
    refine ⟨ok_pDs fl, ?_⟩
    rw [any_pD]
    by_cases c : p ∈ fl
    · refine iteB_p (decide_eq_true c) ?_
      rw [List.filter_cons, if_neg (by simpa using c)] at h
      exact ih acc T h
    · refine iteB_n (decide_eq_false c) ?_
      walk_at "wk"
      rw [List.filter_cons, if_pos (decide_eq_true c)] at h
      have em : (acc ++ [p]).map pD = acc.map pD ++ [pD p] := by rw [List.map_append]; rfl
      rw [← em]
      exact ih (acc ++ [p]) T (by rw [List.append_assoc]; exact h)
theorem un_end {KK : dEnds} {T : Tk} {fl ps : List P3} {A0 A1 A2 A4 A5 A6 A7 A9 A10 : Option SV} (hne : ∃ p ∈ ps, p ∉ fl) (hl : fl.length ≤ 10) (hT : TkS T) (h : ∀ p ∈ ps, p ∉ fl → KK.nx [A0, A1, A2, some (.own ((fl ++ [p]).map pD)), A4, A5, A6, A7, some (.val (.lst (ps.map pD))), A9, A10] T) (hs : ps.length ≤ 10) :
    sApp 3 (dView 3 (dOp (oF fIx) (dLc [10] (iQ (dVar 8)) (cN 10) (dViewT 3 (dTst (dOp (oF fNotInS) (dVar 10) (dVar 3)))) (dVar 10)) (dC (.int 0)))) KK [A0, A1, A2, some (.own (fl.map pD)), A4, A5, A6, A7, some (.val (.lst (ps.map pD))), A9, A10] T := by
  walk_at "wkn"
  refine ⟨by rw [List.length_map]; omega, ?_⟩
  refine lc_pick ps [] _ ?_
  rw [List.nil_append]
  obtain ⟨q, r, e⟩ : ∃ q r, (ps.filter fun p => decide (p ∉ fl)) = q :: r := by
    obtain ⟨p, hp, hn⟩ := hne
    cases e : ps.filter fun p => decide (p ∉ fl) with
    | nil =>
      rw [List.filter_eq_nil_iff] at e
      exact absurd (decide_eq_true hn) (e p hp)
    | cons q r => exact ⟨q, r, rfl⟩
  have hq : q ∈ ps.filter fun p => decide (p ∉ fl) := by rw [e]; exact List.mem_cons_self
  obtain ⟨h1, h2⟩ := List.mem_filter.mp hq
  have hh := h q h1 (of_decide_eq_true h2)
  rw [List.map_append, List.map_cons, List.map_nil] at hh
  rw [e, List.map_cons]
  walk_at "wkn"
  exact ⟨hT.noL, by rw [List.length_map]; omega, hh⟩
theorem pig1 {a c0 c1 : P3} (h : c0 ≠ c1) : ∃ p ∈ [c0, c1], p ∉ [a] := by
  by_cases e : c0 = a
  · exact ⟨c1, by simp, by simp only [List.mem_singleton]; exact fun z => h (e.trans z.symm)⟩
  · exact ⟨c0, by simp, by simpa using e⟩
theorem pig2 {a b c0 c1 c2 : P3} (h1 : c0 ≠ c1) (h2 : c0 ≠ c2) (h3 : c1 ≠ c2) : ∃ p ∈ [c0, c1, c2], p ∉ [a, b] := by
  by_cases e0 : c0 ∈ [a, b]
  · by_cases e1 : c1 ∈ [a, b]
    · refine ⟨c2, by simp, fun e2 => ?_⟩
      simp only [List.mem_cons, List.not_mem_nil, or_false] at e0 e1 e2
      rcases e0 with e0 | e0 <;> rcases e1 with e1 | e1 <;> rcases e2 with e2 | e2
      · exact h1 (e0.trans e1.symm)
      · exact h1 (e0.trans e1.symm)
      · exact h2 (e0.trans e2.symm)
      · exact h3 (e1.trans e2.symm)
      · exact h3 (e1.trans e2.symm)
      · exact h2 (e0.trans e2.symm)
      · exact h1 (e0.trans e1.symm)
      · exact h1 (e0.trans e1.symm)
    · exact ⟨c1, by simp, e1⟩
  · exact ⟨c0, by simp, e0⟩
theorem pt_move {p : P3} {x : Int} (hp : Pt 11 p) (c : 0 < p.2.2) (j : Int) (e : x = p.1 + j * p.2.2) (h0 : 0 ≤ j) (h2 : j ≤ 2) : Pt 13 (x, p.2.1, p.2.2) := by
  subst e
  refine ⟨.inr c, ?_, ?_, hp.s2.mono (by decide), hp.s3.mono (by decide)⟩
  · have g := gcdL_nn [p.1 + j * p.2.2, p.2.1, p.2.2] 0 (Int.le_refl _)
    have d1 := gcdL_dvd [p.1 + j * p.2.2, p.2.1, p.2.2] 0 (p.1 + j * p.2.2) (by simp)
    have d2 := gcdL_dvd [p.1 + j * p.2.2, p.2.1, p.2.2] 0 p.2.1 (by simp)
    have d3 := gcdL_dvd [p.1 + j * p.2.2, p.2.1, p.2.2] 0 p.2.2 (by simp)
    have d4 : gcdL 0 [p.1 + j * p.2.2, p.2.1, p.2.2] ∣ p.1 := by
      have := Int.dvd_sub d1 (Int.dvd_trans d3 (Int.dvd_mul_left j p.2.2))
      rwa [show p.1 + j * p.2.2 - j * p.2.2 = p.1 by omega] at this
    have d5 := dvd_gcdL [p.1, p.2.1, p.2.2] 0 _ (Int.dvd_zero _) (fun n hn => by
      simp only [List.mem_cons, List.not_mem_nil, or_false] at hn
      rcases hn with rfl | rfl | rfl
      · exact d4
      · exact d2
      · exact d3)
    rw [hp.one] at d5
    exact Int.eq_one_of_dvd_one g d5
  · have s1 := hp.s1
    have s3 := hp.s3
    unfold Sz at s1 s3 ⊢
    have hj : j = 0 ∨ j = 1 ∨ j = 2 := by omega
    rcases hj with rfl | rfl | rfl <;> omega
theorem un_turn {F : dEnds} {ts : List D} {T : Tk} {w : Int} (w1 : 1 ≤ w) (w2 : w ≤ 1000000) (hw : (w + 999).toNat < 2 ^ 11) (t : Int) (ht : t = 0 ∨ t = 1 ∨ t = 2) (fl : List P3) (hl : (fl.length : Int) = t) (hT : TkS T) {c9 c10 : Option SV}
    (next : ∀ p T' c5 c6 c7 c8, Pt 13 p → p ∉ fl → TkS T' → forL (gN 4) (sSeq (sAsg (dCall 2 sm__law_place (aTank 0 (aCons (dVar 2) (aNil)))) (gTL 3 (gsCons (gN 5) (gsCons (gN 6) (gsCons (gN 7) (gsNil)))))) (sSeq (sAsg (dLc [9] (iR1 (aCons (dOp (oF fAdd) (dVar 4) (dC (.int 1))) (aNil))) (cN 9) dYes (dIf (dTst (dOp (oF fGt) (dVar 7) (dC (.int 0)))) (dTup (aCons (dOp (oF fAdd) (dVar 5) (dOp (oF fMul) (dVar 9) (dVar 7))) (aCons (dVar 6) (aCons (dVar 7) (aNil))))) (dTup (aCons (dVar 5) (aCons (dVar 6) (aCons (dVar 7) (aNil))))))) (gN 8)) (sSeq (sIf (dTst (dOp (oF fEq) (dVar 7) (dC (.int 0)))) (sAsg (dOp (oF fAdd) (dVar 8) (dLc [9] (iR1 (aCons (dVar 4) (aNil))) (cN 9) dYes (dTup (aCons (dVar 9) (aCons (dC (.int 1)) (aCons (dC (.int 1)) (aNil))))))) (gN 8)) ((fun k ρ T => k.nx ρ T))) (sApp 3 (dView 3 (dOp (oF fIx) (dLc [10] (iQ (dVar 8)) (cN 10) (dViewT 3 (dTst (dOp (oF fNotInS) (dVar 10) (dVar 3)))) (dVar 10)) (dC (.int 0)))))))) F ts [some .tank, some (.val (.int 3)), some (.val (.int w)), some (.own ((fl ++ [p]).map pD)), some (.val (.int t)), c5, c6, c7, c8, c9, c10] T') (c4 c5 c6 c7 c8 : Option SV) :
    forL (gN 4) (sSeq (sAsg (dCall 2 sm__law_place (aTank 0 (aCons (dVar 2) (aNil)))) (gTL 3 (gsCons (gN 5) (gsCons (gN 6) (gsCons (gN 7) (gsNil)))))) (sSeq (sAsg (dLc [9] (iR1 (aCons (dOp (oF fAdd) (dVar 4) (dC (.int 1))) (aNil))) (cN 9) dYes (dIf (dTst (dOp (oF fGt) (dVar 7) (dC (.int 0)))) (dTup (aCons (dOp (oF fAdd) (dVar 5) (dOp (oF fMul) (dVar 9) (dVar 7))) (aCons (dVar 6) (aCons (dVar 7) (aNil))))) (dTup (aCons (dVar 5) (aCons (dVar 6) (aCons (dVar 7) (aNil))))))) (gN 8)) (sSeq (sIf (dTst (dOp (oF fEq) (dVar 7) (dC (.int 0)))) (sAsg (dOp (oF fAdd) (dVar 8) (dLc [9] (iR1 (aCons (dVar 4) (aNil))) (cN 9) dYes (dTup (aCons (dVar 9) (aCons (dC (.int 1)) (aCons (dC (.int 1)) (aNil))))))) (gN 8)) ((fun k ρ T => k.nx ρ T))) (sApp 3 (dView 3 (dOp (oF fIx) (dLc [10] (iQ (dVar 8)) (cN 10) (dViewT 3 (dTst (dOp (oF fNotInS) (dVar 10) (dVar 3)))) (dVar 10)) (dC (.int 0)))))))) F (.int t :: ts) [some .tank, some (.val (.int 3)), some (.val (.int w)), some (.own (fl.map pD)), c4, c5, c6, c7, c8, c9, c10] T := by
  rw [forL_c]
  generalize forL (gN 4) (sSeq (sAsg (dCall 2 sm__law_place (aTank 0 (aCons (dVar 2) (aNil)))) (gTL 3 (gsCons (gN 5) (gsCons (gN 6) (gsCons (gN 7) (gsNil)))))) (sSeq (sAsg (dLc [9] (iR1 (aCons (dOp (oF fAdd) (dVar 4) (dC (.int 1))) (aNil))) (cN 9) dYes (dIf (dTst (dOp (oF fGt) (dVar 7) (dC (.int 0)))) (dTup (aCons (dOp (oF fAdd) (dVar 5) (dOp (oF fMul) (dVar 9) (dVar 7))) (aCons (dVar 6) (aCons (dVar 7) (aNil))))) (dTup (aCons (dVar 5) (aCons (dVar 6) (aCons (dVar 7) (aNil))))))) (gN 8)) (sSeq (sIf (dTst (dOp (oF fEq) (dVar 7) (dC (.int 0)))) (sAsg (dOp (oF fAdd) (dVar 8) (dLc [9] (iR1 (aCons (dVar 4) (aNil))) (cN 9) dYes (dTup (aCons (dVar 9) (aCons (dC (.int 1)) (aCons (dC (.int 1)) (aNil))))))) (gN 8)) ((fun k ρ T => k.nx ρ T))) (sApp 3 (dView 3 (dOp (oF fIx) (dLc [10] (iQ (dVar 8)) (cN 10) (dViewT 3 (dTst (dOp (oF fNotInS) (dVar 10) (dVar 3)))) (dVar 10)) (dC (.int 0)))))))) F ts = R at next ⊢
  generalize hS : sApp 3 (dView 3 (dOp (oF fIx) (dLc [10] (iQ (dVar 8)) (cN 10) (dViewT 3 (dTst (dOp (oF fNotInS) (dVar 10) (dVar 3)))) (dVar 10)) (dC (.int 0)))) = S
  walk_at "wkn"
  refine w__law_placeW hT w1 w2 hw (by decide) fun p T1 hp1 hT1 => ?_
  walk_at "wkn"
  have ll : fl.length ≤ 10 := by omega
  by_cases c : 0 < p.2.2
  · have zn : ¬ p.2.2 = 0 := by omega
    have m0 := pt_move hp1 c 0 (x := p.1 + 0 * p.2.2) rfl (by decide) (by decide)
    have m1 := pt_move hp1 c 1 (x := p.1 + p.2.2) (by omega) (by decide) (by decide)
    have m2 := pt_move hp1 c 2 (x := p.1 + 2 * p.2.2) rfl (by decide) (by decide)
    rcases ht with rfl | rfl | rfl
    · walk_at "wki"
      refine iteB_p (decide_eq_true c) ?_
      walk_at "wki"
      refine ⟨lit_mul (by decide), ?_⟩
      refine iteB_n (decide_eq_false zn) ?_
      subst hS
      refine un_end (ps := [(p.1 + 0 * p.2.2, p.2.1, p.2.2)]) ⟨_, List.mem_cons_self, ?_⟩ ll hT1 (fun q hq hn => next q T1 _ _ _ _ ?_ hn hT1) (by simp)
      · have : fl = [] := List.eq_nil_of_length_eq_zero (by omega)
        rw [this]; simp
      · rw [List.mem_singleton] at hq
        subst hq
        exact m0
    · walk_at "wki"
      refine iteB_p (decide_eq_true c) ?_
      walk_at "wki"
      refine ⟨lit_mul (by decide), ?_⟩
      refine iteB_p (decide_eq_true c) ?_
      walk_at "wki"
      refine ⟨lit_mul (by decide), ?_⟩
      refine iteB_n (decide_eq_false zn) ?_
      obtain ⟨a, rfl⟩ : ∃ a, fl = [a] := List.length_eq_one_iff.mp (by omega)
      subst hS
      refine un_end (ps := [(p.1 + 0 * p.2.2, p.2.1, p.2.2), (p.1 + p.2.2, p.2.1, p.2.2)]) (pig1 (fun z => zn (by have := congrArg Prod.fst z; simp only at this; omega))) ll hT1 (fun q hq hn => next q T1 _ _ _ _ ?_ hn hT1) (by simp)
      simp only [List.mem_cons, List.not_mem_nil, or_false] at hq
      rcases hq with rfl | rfl
      · exact m0
      · exact m1
    · walk_at "wki"
      refine iteB_p (decide_eq_true c) ?_
      walk_at "wki"
      refine ⟨lit_mul (by decide), ?_⟩
      refine iteB_p (decide_eq_true c) ?_
      walk_at "wki"
      refine ⟨lit_mul (by decide), ?_⟩
      refine iteB_p (decide_eq_true c) ?_
      walk_at "wki"
      refine ⟨lit_mul (by decide), ?_⟩
      refine iteB_n (decide_eq_false zn) ?_
      obtain ⟨a, b, rfl⟩ : ∃ a b, fl = [a, b] := by
        match fl, hl with
        | [a, b], _ => exact ⟨a, b, rfl⟩
        | [], h => simp at h
        | [_], h => simp at h
        | _ :: _ :: _ :: _, h => simp at h; omega
      subst hS
      refine un_end (ps := [(p.1 + 0 * p.2.2, p.2.1, p.2.2), (p.1 + p.2.2, p.2.1, p.2.2), (p.1 + 2 * p.2.2, p.2.1, p.2.2)]) (pig2 (fun z => zn (by have := congrArg Prod.fst z; simp only at this; omega)) (fun z => zn (by have := congrArg Prod.fst z; simp only at this; omega)) (fun z => zn (by have := congrArg Prod.fst z; simp only at this; omega))) ll hT1 (fun q hq hn => next q T1 _ _ _ _ ?_ hn hT1) (by simp)
      simp only [List.mem_cons, List.not_mem_nil, or_false] at hq
      rcases hq with rfl | rfl | rfl
      · exact m0
      · exact m1
      · exact m2
  · have pf := hp1.far (by have := hp1.nn; omega)
    subst pf
    have f0 : Pt 13 ((1, 0, 0) : P3) := pt_far (by decide)
    have f1 : Pt 13 ((0, 1, 1) : P3) := ⟨.inr (by decide), by decide, by unfold Sz; decide, by unfold Sz; decide, by unfold Sz; decide⟩
    have f2 : Pt 13 ((1, 1, 1) : P3) := ⟨.inr (by decide), by decide, by unfold Sz; decide, by unfold Sz; decide, by unfold Sz; decide⟩
    rcases ht with rfl | rfl | rfl
    · walk_at "wki"
      subst hS
      refine un_end (ps := [(1, 0, 0)]) ⟨_, List.mem_cons_self, ?_⟩ ll hT1 (fun q hq hn => next q T1 _ _ _ _ ?_ hn hT1) (by simp)
      · have : fl = [] := List.eq_nil_of_length_eq_zero (by omega)
        rw [this]; simp
      · rw [List.mem_singleton] at hq
        subst hq
        exact f0
    · walk_at "wki"
      obtain ⟨a, rfl⟩ : ∃ a, fl = [a] := List.length_eq_one_iff.mp (by omega)
      subst hS
      refine un_end (ps := [(1, 0, 0), (1, 0, 0), (0, 1, 1)]) ?_ ll hT1 (fun q hq hn => next q T1 _ _ _ _ ?_ hn hT1) (by simp)
      · obtain ⟨q, hq, hn⟩ := pig1 (a := a) (c0 := (1, 0, 0)) (c1 := (0, 1, 1)) (by decide)
        exact ⟨q, List.mem_cons_of_mem _ hq, hn⟩
      · simp only [List.mem_cons, List.not_mem_nil, or_false] at hq
        rcases hq with rfl | rfl | rfl
        · exact f0
        · exact f0
        · exact f1
    · walk_at "wki"
      obtain ⟨a, b, rfl⟩ : ∃ a b, fl = [a, b] := by
        match fl, hl with
        | [a, b], _ => exact ⟨a, b, rfl⟩
        | [], h => simp at h
        | [_], h => simp at h
        | _ :: _ :: _ :: _, h => simp at h; omega
      subst hS
      refine un_end (ps := [(1, 0, 0), (1, 0, 0), (1, 0, 0), (0, 1, 1), (1, 1, 1)]) ?_ ll hT1 (fun q hq hn => next q T1 _ _ _ _ ?_ hn hT1) (by simp)
      · obtain ⟨q, hq, hn⟩ := pig2 (a := a) (b := b) (c0 := (1, 0, 0)) (c1 := (0, 1, 1)) (c2 := (1, 1, 1)) (by decide) (by decide) (by decide)
        exact ⟨q, List.mem_cons_of_mem _ (List.mem_cons_of_mem _ hq), hn⟩
      · simp only [List.mem_cons, List.not_mem_nil, or_false] at hq
        rcases hq with rfl | rfl | rfl | rfl | rfl
        · exact f0
        · exact f0
        · exact f0
        · exact f1
        · exact f2
theorem w__law_unlike {T : Tk} {w : Int} {k : KD} (hT : TkS T) (w1 : 1 ≤ w) (w2 : w ≤ 1000000) (hw : (w + 999).toNat < 2 ^ 11) (h : ∀ (u v z : P3) T', Pt 13 u → Pt 13 v → Pt 13 z → u ≠ v → u ≠ z → v ≠ z → TkS T' → k (.lst [pD u, pD v, pD z]) T') : sm__law_unlike [.tank, .val (.int 3), .val (.int w)] T k := by
  rw [e__law_unlike, b__law_unlike]
  walk_at "wkn"
  rw [show intsL 0 3 = [.int 0, .int 1, .int 2] from rfl]
  refine un_turn w1 w2 hw 0 (.inl rfl) [] rfl hT (fun u T1 c5 c6 c7 c8 hu _ hT1 => ?_) _ _ _ _ _
  refine un_turn w1 w2 hw 1 (.inr (.inl rfl)) [u] rfl hT1 (fun v T2 c5 c6 c7 c8 hv nv hT2 => ?_) _ _ _ _ _
  refine un_turn w1 w2 hw 2 (.inr (.inr rfl)) [u, v] rfl hT2 (fun z T3 c5 c6 c7 c8 hz nz hT3 => ?_) _ _ _ _ _
  simp only [List.mem_cons, List.not_mem_nil, or_false, not_or] at nv nz
  have hh := h u v z T3 hu hv hz (Ne.symm nv) (Ne.symm nz.1) (Ne.symm nz.2) hT3
  refine forL_nl2 ?_
  walk_at "wk"
  exact hh

theorem pr_one (K : G4) : Pr 0 g1 K = K := by
  obtain ⟨a, b, c, d⟩ := K
  unfold Pr g1 mulm
  rw [flm0]
  simp only [Prod.mk.injEq]
  refine ⟨?_, ?_, ?_, ?_⟩ <;> grind
theorem pr_one' {f : Int} (hf : f = 0 ∨ f = 1) (K : G4) : Pr f K g1 = K := by
  have e : flm f g1 = g1 := by rcases hf with rfl | rfl <;> rfl
  obtain ⟨a, b, c, d⟩ := K
  unfold Pr
  rw [e]
  unfold mulm g1
  simp only [Prod.mk.injEq]
  refine ⟨?_, ?_, ?_, ?_⟩ <;> grind
theorem step1 {p q a b c : Nat} {f g : Int} {L K C B X : G4} (hL : Mq p f L) (hK : Mq q g K) (hC : Fm a (Pr f L K) C) (hB : Fm b (Bk f L) B) (hX : Fm c (Pr f B C) X) : X = K := by
  have qB := hL.bk hB
  obtain ⟨x0, h0⟩ := fm_ex (n4_pr (f := f) qB.n4 hL.n4) (dt_fst (dt_pr qB.dt hL.dt))
  have e0 := Fm.left hL hB h0
  subst e0
  have ff : (f + f) % 2 = 0 := by rcases hL.fl with rfl | rfl <;> rfl
  exact Fm.ass (m3 := K) (y := K) qB hL h0 (by rw [ff, pr_one]; exact hK.fm) hC hX
theorem step2 {p q a b c d : Nat} {f g : Int} {L K C B X KB : G4} (hL : Mq p f L) (hK : Mq q g K) (hC : Fm a (Pr f L K) C) (hB : Fm b (Bk ((f + g) % 2) C) B) (hX : Fm c (Pr ((f + g) % 2) B L) X) (hk : Fm d (Bk g K) KB) : X = KB := by
  obtain ⟨LB, hLB⟩ := fm_ex (n4_bk (f := f) hL.n4) (dt_fst (dt_bk hL.dt))
  have qLB := hL.bk hLB
  have qKB := hK.bk hk
  obtain ⟨y0, h0⟩ := fm_ex (n4_pr (f := g) qKB.n4 qLB.n4) (dt_fst (dt_pr qKB.dt qLB.dt))
  have e0 := Fm.anti hL hK hC hLB hk hB h0
  subst e0
  obtain ⟨x1, h1⟩ := fm_ex (n4_pr (f := f) qLB.n4 hL.n4) (dt_fst (dt_pr qLB.dt hL.dt))
  have e1 := Fm.left hL hLB h1
  subst e1
  exact (Fm.ass (m3 := L) (y := X) (w := KB) qKB qLB h0 (by rw [Int.add_comm g f]; exact hX) h1 (by rw [pr_one' hK.fl]; exact qKB.fm)).symm
def QM (f : Int) (m D : G4) : G4 := if f = 0 then Cnj m D else CnM 0 m D
theorem qm_bk {f : Int} (hf : f = 0 ∨ f = 1) (m D : G4) : Bk f (QM f m D) = QM f m (Bk f D) := by
  rcases hf with rfl | rfl
  · show Bk 0 (Cnj m D) = Cnj m (Bk 0 D)
    rw [cnj_bk]
    unfold Bk
    rw [flm0]
  · exact cnM_bk m D
theorem qm_inv {l : Nat} {f : Int} {m D K KB : G4} {e : Gi} (hf : f = 0 ∨ f = 1) (e0 : e ≠ 0) (h : QM f m D = scl e K) (hk : Fm l (Bk f K) KB) : ∃ e', e' ≠ 0 ∧ QM f m (Bk f D) = scl e' KB := by
  obtain ⟨c, c0, ec⟩ := hk.c
  refine ⟨fl f e * c, Gi.mul_ne (fl_ne e0) c0, ?_⟩
  rw [← qm_bk hf, h, bk_scl, ec, scl2]
theorem qm_law {f : Int} (hf : f = 0 ∨ f = 1) (L D : G4) : Pr 0 (Bk 0 L) (Pr f D L) = QM f (adjm L) D := by
  rcases hf with rfl | rfl
  · show Pr 0 (Bk 0 L) (Pr 0 D L) = Cnj (adjm L) D
    rw [cnj_eq, adj_adj, mulm_assoc]
    unfold Pr Bk
    rw [flm0, flm0, flm0]
  · show Pr 0 (Bk 0 L) (Pr 1 D L) = CnM 0 (adjm L) D
    rw [cnM_eq, adj_adj, mulm_assoc]
    unfold Pr Bk
    rw [flm0, flm0]
theorem Inn.flg {way f : Int} {D : G4} (h : Inn way f D) : f = 0 ∨ f = 1 := by cases h <;> simp
theorem Inn.dt {way f : Int} {D : G4} (h : Inn way f D) : dtG D ≠ 0 := by
  cases h with
  | grow o t o0 t0 ne => exact fun z => Gi.mul_ne o0 t0 (by unfold dtG at z; grind)
  | shift s s0 => exact fun z => one_ne (by unfold dtG at z; grind)
  | pull o t o0 t0 ne => exact fun z => Gi.mul_ne o0 t0 (by unfold dtG at z; grind)
  | turn o t o0 t0 ne => exact fun z => Gi.mul_ne o0 t0 (by unfold dtG at z; grind)
  | set a b a0 b0 => exact fun z => Gi.mul_ne a0 (Gi.cj_ne a0) (by unfold dtG at z; grind)
theorem Inn.bk {way f : Int} {D : G4} (h : Inn way f D) : Inn way f (Bk f D) := by
  have n0 : -(0 : Gi) = 0 := by decide +kernel
  have z0 : (0 : Gi).cj = 0 := rfl
  cases h with
  | grow o t o0 t0 ne =>
    unfold Bk adjm
    rw [flm0]
    simp only [n0]
    exact .grow t o t0 o0 (Ne.symm ne)
  | shift s s0 =>
    unfold Bk adjm
    rw [flm0]
    simp only [n0]
    exact .shift (-s) (fun z => s0 (by grind))
  | pull o t o0 t0 ne =>
    have e : Bk 1 (o, 0, 0, t) = (t.cj, 0, 0, o.cj) := by
      unfold Bk adjm flm fl
      simp only [n0, z0, reduceIte]
    rw [e]
    exact .pull t.cj o.cj (Gi.cj_ne t0) (Gi.cj_ne o0) (by rw [Gi.nm_cj, Gi.nm_cj]; exact Ne.symm ne)
  | turn o t o0 t0 ne =>
    have e : Bk 1 (0, o, t, 0) = (0, (-o).cj, (-t).cj, 0) := by
      unfold Bk adjm flm fl
      simp only [z0, reduceIte]
    rw [e]
    refine .turn _ _ (Gi.cj_ne fun z => o0 (by grind)) (Gi.cj_ne fun z => t0 (by grind)) ?_
    have e2 : (-o).cj * ((-t).cj).cj = (o * t.cj).cj := by rw [Gi.cj_cj, Gi.cj_mul, Gi.cj_cj, Gi.cj_neg]; grind
    rw [e2]
    rcases ne with y | y
    · exact .inl (show -(o * t.cj).im ≠ 0 by omega)
    · exact .inr y
  | set a b a0 b0 =>
    have e : Bk 1 (a, b, 0, a.cj) = (a, (-b).cj, 0, a.cj) := by
      unfold Bk adjm flm fl
      simp only [n0, z0, reduceIte, Gi.cj_cj]
    rw [e]
    exact .set a (-b).cj a0 (show -b.re ≠ 0 by omega)
def dueW (way : Int) (u v : P3) : D := if way = 2 ∨ way = 4 then .tup [.str "places", .int 2, ordT u v] else if way = 5 then .tup [.str "places", .int 0, .tup []] else .tup [.str "places", .int 1, .tup [pD v]]
theorem ag_inn {way f : Int} {n a b : Nat} {m D K : G4} {e : Gi} {u v : P3} (hi : Inn way f D) (qK : Mq n f K) (hn : n ≤ 300) (d0 : dtG m ≠ 0) (e0 : e ≠ 0) (eK : QM f m D = scl e K) (lu : Led a 0 m (0, 0, 1) u) (lv : Led b 0 m (1, 0, 0) v) (ha : a ≤ 1000) (hb : b ≤ 1000) (nuv : u ≠ v) : AgS f K (dueW way u v) := by
  cases hi with
  | grow o t o0 t0 ne => exact ag_grow qK (by omega) d0 e0 eK ne lu lv ha hb nuv
  | shift s s0 => exact ag_shift qK (by omega) d0 e0 eK s0 lv hb
  | pull o t o0 t0 ne => exact ag_pull qK hn d0 e0 eK o0 t0 ne lu lv ha hb nuv
  | turn o t o0 t0 ne => exact ag_none qK hn d0 e0 eK o0 t0 ne
  | set a b a0 b0 => exact ag_settle qK hn d0 e0 eK a0 b0 lv hb
/-- a built map, and what is due of it -/
structure Bt (f : Int) (K : G4) (due : D) : Prop where
  q : Mq 300 f K
  ag : AgS f K due
  bk : ∀ KB l, Fm l (Bk f K) KB → AgS f KB due
theorem bt_inn {way f : Int} {l a b : Nat} {L D K : G4} {u v : P3} (hi : Inn way f D) (dL : dtG L ≠ 0) (hK : Fm l (Pr 0 (Bk 0 L) (Pr f D L)) K) (hl : l ≤ 300) (lu : Led a 0 (adjm L) (0, 0, 1) u) (lv : Led b 0 (adjm L) (1, 0, 0) v) (ha : a ≤ 1000) (hb : b ≤ 1000) (nuv : u ≠ v) : Bt f K (dueW way u v) := by
  have dm : dtG (adjm L) ≠ 0 := by rw [dt_adj]; exact dL
  have qK : Mq l f K := hK.mq hi.flg (dt_pr (dt_bk dL) (dt_pr hi.dt dL))
  obtain ⟨e, e0, ee⟩ := hK.c
  rw [qm_law hi.flg] at ee
  refine ⟨qK.mono hl, ag_inn hi qK hl dm e0 ee lu lv ha hb nuv, fun KB l' hk => ?_⟩
  obtain ⟨e', e0', ee'⟩ := qm_inv hi.flg e0 ee hk
  have qB : Mq l f KB := by
    obtain ⟨KB', hk'⟩ := fm_ex (n4_bk (f := f) qK.n4) (dt_fst (dt_bk qK.dt))
    rw [hk.uniq hk']
    exact qK.bk hk'
  exact ag_inn hi.bk qB hl dm e0' ee' lu lv ha hb nuv
theorem bt_one : Bt 0 g1 (.tup [.str "all"]) := by
  refine ⟨Mq.g1.mono (by decide), .all rfl rfl, fun KB l hk => .all rfl ?_⟩
  have e : Bk 0 g1 = g1 := by decide +kernel
  rw [e] at hk
  exact hk.uniq fm_g1
theorem bt_mir {n l : Nat} {r : R4} {K : G4} (hr : Rd n r) (hn : n ≤ 300) (hK : Fm l (MM r) K) (hl : l ≤ 300) : Bt 1 K (.tup [.str "round", rD r]) := by
  have qK : Mq l 1 K := hK.mq (.inr rfl) (mm_nz hr.toRw)
  refine ⟨qK.mono hl, .rnd r l hr hn hl rfl hK, fun KB l' hk => ?_⟩
  have : KB = K := by
    obtain ⟨c, c0, e⟩ := hK.c
    have h := mm_bk r
    rw [e, bk_scl] at h
    obtain ⟨c', c0', e'⟩ := hk.c
    rw [e', scl2, scl2] at h
    exact mp_uniq hk.mp hK.mp (Gi.mul_ne (fl_ne c0) c0') (Gi.mul_ne (io_ne (by decide)) c0) h
  rw [this]
  exact .rnd r l hr hn hl rfl hK
theorem bt_any {l : Nat} {N K : G4} {P : D} (dN : dtG N ≠ 0) (hK : Fm l N K) (hl : l ≤ 300) (ns : ¬(N.2.1 = 0 ∧ N.2.2.1 = 0 ∧ N.1 - N.2.2.2 = 0)) (hP : PkD N P) : Bt 0 K (.tup [.str "places", .int (if lvG N = 0 then 1 else 2), P]) := by
  have qK : Mq l 0 K := hK.mq (.inl rfl) dN
  have go : ∀ (l' : Nat) (M J : G4) (e : Gi), Mq l' 0 J → l' ≤ 300 → e ≠ 0 → M = scl e J → ¬(M.2.1 = 0 ∧ M.2.2.1 = 0 ∧ M.1 - M.2.2.2 = 0) → PkD M P → AgS 0 J (.tup [.str "places", .int (if lvG M = 0 then 1 else 2), P]) := fun l' M J e qJ hl' e0 eM nM hM => by
    refine ag_any qJ (by omega) e0 eM (fun z => nM ?_) hM
    rw [eM, z]
    unfold scl g1
    simp only
    refine ⟨?_, ?_, ?_⟩ <;> grind
  obtain ⟨e, e0, ee⟩ := hK.c
  refine ⟨qK.mono hl, go l N K e qK hl e0 ee ns hP, fun KB l' hk => ?_⟩
  have qB : Mq l 0 KB := by
    obtain ⟨KB', hk'⟩ := fm_ex (n4_bk (f := 0) qK.n4) (dt_fst (dt_bk qK.dt))
    rw [hk.uniq hk']
    exact qK.bk hk'
  obtain ⟨c, c0, ec⟩ := hk.c
  have lv : lvG (adjm N) = lvG N := by unfold lvG adjm; grind
  have ea : adjm N = scl (e * c) KB := by
    have h : Bk 0 N = scl (fl 0 e) (Bk 0 K) := by rw [ee, bk_scl]
    rw [ec, scl2] at h
    unfold Bk at h
    rw [flm0] at h
    exact h
  have := go l (adjm N) KB (e * c) qB hl (Gi.mul_ne e0 c0) ea (fun ⟨y1, y2, y3⟩ => ns ⟨?_, ?_, ?_⟩) hP.adj
  · rw [lv] at this
    exact this
  · unfold adjm at y1; simp only at y1; grind
  · unfold adjm at y2; simp only at y2; grind
  · unfold adjm at y3; simp only at y3; grind

theorem nz_lvN {n : Nat} {N : G4} (h : N4 n N) : Nz (2 * n + 8) (lvG N) := nz_lv h
theorem tD1 (p : P3) : TupsD [l3 p] := ⟨by simp, 3, by decide, fun y hy => by rw [List.mem_singleton] at hy; subst hy; rfl⟩
theorem tD0 : TupsD [] := ⟨by simp, 3, by decide, fun y hy => nomatch hy⟩
theorem w__law_any {T : Tk} {w : Int} {k : KD} (hT : TkS T) (w1 : 1 ≤ w) (w2 : w ≤ 1000000) (hw : (w + 999).toNat < 2 ^ 11) (h : ∀ f K due T', Bt f K due → TkS T' → k (.lst [mD f K, due]) T') : sm__law_any [.tank, .val (.int w)] T k := by
  rw [e__law_any, b__law_any]
  walk_at "wkn"
  refine w__law_fourW hT w1 w2 hw (by decide) fun N T1 hN dN hT1 => ?_
  have hN : N4 26 N := hN
  walk_at "wkn"
  refine w__law_chartG hN.s1 hN.s2 hN.s3 hN.s4 (by decide) (dt_fst dN) fun K hK => ?_
  walk_at "wkn"
  refine w__law_minusU ?_
  walk_at "wkn"
  refine w__law_plusG ?_
  rw [show N.1 + -N.2.2.2 = N.1 - N.2.2.2 by grind]
  have bt := fun P => bt_any (P := P) dN hK (by decide)
  walk_at "wkn"
  rw [dec_gi, dec_gi, dec_gi, ← Bool.decide_and, ← Bool.decide_and]
  have sg : Nz 28 (N.1 - N.2.2.2) := by
    rw [show N.1 - N.2.2.2 = N.1 + -N.2.2.2 by grind]
    exact Nz.add hN.s1 hN.s4.neg
  by_cases al : N.2.1 = 0 ∧ N.2.2.1 = 0 ∧ N.1 - N.2.2.2 = 0
  · refine iteB_p (decide_eq_true al) ?_
    walk_at "wkn"
    have x1 : K = g1 := by
      obtain ⟨a1, a2, a3⟩ := al
      obtain ⟨c, c0, e⟩ := hK.c
      refine mp_uniq hK.mp Mq.g1.mp c0 (c' := N.1) (fun z => ?_) ?_
      · apply dN
        unfold dtG
        rw [z, a1]
        grind
      · rw [← e]
        obtain ⟨a, b, c', d⟩ := N
        simp only at a1 a2 a3
        unfold scl g1
        simp only [Prod.mk.injEq]
        refine ⟨?_, ?_, ?_, ?_⟩ <;> grind
    subst x1
    exact h 0 g1 _ T1 bt_one hT1
  · refine iteB_n (decide_eq_false al) ?_
    have bt := fun P => bt P al
    walk_at "wkn"
    refine w__law_timesG (a := N.1 - N.2.2.2) (b := N.1 - N.2.2.2) sg.cz sg.cz (by decide) (by decide) ?_
    walk_at "wkn"
    refine w__law_timesG hN.s2.cz hN.s3.cz (by decide) (by decide) ?_
    walk_at "wkn"
    refine w__law_scaledG (m := 3) (by unfold Sz; decide) (hN.s2.mul hN.s3).cz (by decide) (by decide) ?_
    walk_at "wkn"
    refine w__law_plusG ?_
    rw [show (N.1 - N.2.2.2) * (N.1 - N.2.2.2) + scG 4 (N.2.1 * N.2.2.1) = lvG N by
      unfold lvG
      rw [show scG 4 (N.2.1 * N.2.2.1) = N.2.1 * N.2.2.1 + N.2.1 * N.2.2.1 + N.2.1 * N.2.2.1 + N.2.1 * N.2.2.1 from Gi.ext' (by simp only [scG, Gi.add_re]; omega) (by simp only [scG, Gi.add_im]; omega)]]
    have sl := nz_lvN hN
    walk_at "wkn"
    have fin : ∀ P, PkD N P → k (.lst [mD 0 K, .tup [.str "places", .int (if lvG N = 0 then 1 else 2), P]]) T1 := fun P hP => h 0 K _ T1 (bt P hP) hT1
    by_cases c0 : N.2.2.1 = 0
    · refine w__law_complex_root sl (by decide) (fun w _ => ?_) (fun _ => ?_)
      · walk_at "wkn"
        rw [dec_gi]
        refine iteB_p (decide_eq_true c0) ?_
        walk_at "wkn"
        rw [dec_gi]
        by_cases g0 : N.1 - N.2.2.2 = 0
        · refine iteB_p (decide_eq_true g0) ?_
          walk_at "wkn"
          rw [dec_gi]
          have hP : PkD N (.tup [pD (1, 0, 0)]) := .inl ⟨c0, by clear fin; grind, rfl⟩
          have F := fin _ hP
          by_cases lv : lvG N = 0
          · rw [if_pos lv] at F
            refine iteB_p (decide_eq_true lv) ?_
            walk_at "wkn"
            exact ⟨tD1 (1, 0, 0), F⟩
          · rw [if_neg lv] at F
            refine iteB_n (decide_eq_false lv) ?_
            walk_at "wkn"
            exact ⟨tD1 (1, 0, 0), F⟩
        · refine iteB_n (decide_eq_false g0) ?_
          walk_at "wkn"
          refine w__law_minusU ?_
          walk_at "wkn"
          refine w__law_spotG (n := 28) (w := -(N.1 - N.2.2.2)) (Cz.mono hN.s2.cz (by decide)) sg.neg.cz (by decide) (fun z => g0 (by have := z.2; clear fin; grind)) fun q hq => ?_
          walk_at "wkn"
          rw [dec_gi]
          have hq' : HG 57 q N.2.1 (N.2.2.2 - N.1) := by
            rw [show N.2.2.2 - N.1 = -(N.1 - N.2.2.2) by grind]
            exact hq
          have qf : ((1, 0, 0) : P3) ≠ q := fun z => by
            have e := hq.e
            rw [← z, show zG (1, 0, 0) = 1 from rfl, show rG (1, 0, 0) = 0 from rfl] at e
            exact g0 (by clear fin hq hq'; grind)
          have hP : PkD N (ordT (1, 0, 0) q) := .inr (.inl ⟨c0, fun z => g0 (by clear fin hq hq'; grind), 57, q, by decide, hq', rfl⟩)
          have F := fin _ hP
          have eS := ord_ded (p := (1, 0, 0)) (q := q)
          rw [if_neg qf] at eS
          by_cases lv : lvG N = 0
          · rw [if_pos lv] at F
            refine iteB_p (decide_eq_true lv) ?_
            walk_at "wkn"
            refine ⟨tD2 (p := (1, 0, 0)) (q := q), ?_⟩
            rw [← eS] at F
            exact F
          · rw [if_neg lv] at F
            refine iteB_n (decide_eq_false lv) ?_
            walk_at "wkn"
            refine ⟨tD2 (p := (1, 0, 0)) (q := q), ?_⟩
            rw [← eS] at F
            exact F
      · walk_at "wkn"
        rw [dec_gi]
        refine iteB_p (decide_eq_true c0) ?_
        walk_at "wkn"
        rw [dec_gi]
        by_cases g0 : N.1 - N.2.2.2 = 0
        · refine iteB_p (decide_eq_true g0) ?_
          walk_at "wkn"
          rw [dec_gi]
          have hP : PkD N (.tup [pD (1, 0, 0)]) := .inl ⟨c0, by clear fin; grind, rfl⟩
          have F := fin _ hP
          by_cases lv : lvG N = 0
          · rw [if_pos lv] at F
            refine iteB_p (decide_eq_true lv) ?_
            walk_at "wkn"
            exact ⟨tD1 (1, 0, 0), F⟩
          · rw [if_neg lv] at F
            refine iteB_n (decide_eq_false lv) ?_
            walk_at "wkn"
            exact ⟨tD1 (1, 0, 0), F⟩
        · refine iteB_n (decide_eq_false g0) ?_
          walk_at "wkn"
          refine w__law_minusU ?_
          walk_at "wkn"
          refine w__law_spotG (n := 28) (w := -(N.1 - N.2.2.2)) (Cz.mono hN.s2.cz (by decide)) sg.neg.cz (by decide) (fun z => g0 (by have := z.2; clear fin; grind)) fun q hq => ?_
          walk_at "wkn"
          rw [dec_gi]
          have hq' : HG 57 q N.2.1 (N.2.2.2 - N.1) := by
            rw [show N.2.2.2 - N.1 = -(N.1 - N.2.2.2) by grind]
            exact hq
          have qf : ((1, 0, 0) : P3) ≠ q := fun z => by
            have e := hq.e
            rw [← z, show zG (1, 0, 0) = 1 from rfl, show rG (1, 0, 0) = 0 from rfl] at e
            exact g0 (by clear fin hq hq'; grind)
          have hP : PkD N (ordT (1, 0, 0) q) := .inr (.inl ⟨c0, fun z => g0 (by clear fin hq hq'; grind), 57, q, by decide, hq', rfl⟩)
          have F := fin _ hP
          have eS := ord_ded (p := (1, 0, 0)) (q := q)
          rw [if_neg qf] at eS
          by_cases lv : lvG N = 0
          · rw [if_pos lv] at F
            refine iteB_p (decide_eq_true lv) ?_
            walk_at "wkn"
            refine ⟨tD2 (p := (1, 0, 0)) (q := q), ?_⟩
            rw [← eS] at F
            exact F
          · rw [if_neg lv] at F
            refine iteB_n (decide_eq_false lv) ?_
            walk_at "wkn"
            refine ⟨tD2 (p := (1, 0, 0)) (q := q), ?_⟩
            rw [← eS] at F
            exact F
    · refine w__law_complex_root sl (by decide) (fun w hw => ?_) (fun nw => ?_)
      · walk_at "wkn"
        rw [dec_gi]
        refine iteB_n (decide_eq_false c0) ?_
        have sw : Nz 30 w := nz_root (n := 26) sl hw
        have c2 := dbl_ne0 c0
        have s2 : Nz 60 (scG 2 N.2.2.1) := by
          rw [sc2]
          exact (Nz.add hN.s3 hN.s3).mono (by decide)
        walk_at "wkn"
        refine w__law_minusU ?_
        walk_at "wk"
        refine w__law_plusG ?_
        walk_at "wk"
        refine w__law_scaledG (m := 2) sz2x hN.s3.cz (by decide) (by decide) ?_
        walk_at "wk"
        refine w__law_spotG (n := 60) (z := N.1 - N.2.2.2 + w) (w := scG 2 N.2.2.1) ((Nz.add (sg.mono (by decide) : Nz 58 _) (sw.mono (by decide))).cz) s2.cz (by decide) (fun z => c2 (by rw [← sc2]; exact z.2)) fun f hf => ?_
        walk_at "wk"
        refine w__law_plusG ?_
        walk_at "wk"
        refine w__law_scaledG (m := 2) sz2x hN.s3.cz (by decide) (by decide) ?_
        walk_at "wk"
        refine w__law_spotG (n := 60) (z := N.1 - N.2.2.2 + -w) (w := scG 2 N.2.2.1) ((Nz.add (sg.mono (by decide) : Nz 58 _) (sw.neg.mono (by decide))).cz) s2.cz (by decide) (fun z => c2 (by rw [← sc2]; exact z.2)) fun g hg => ?_
        walk_at "wk"
        rw [dec_gi]
        rw [sc2] at hf hg
        rw [show N.1 - N.2.2.2 + -w = N.1 - N.2.2.2 - w by clear fin hf hg; grind] at hg
        have hP : PkD N (if f = g then .tup [pD f] else ordT f g) := .inr (.inr (.inr ⟨c0, w, 121, f, g, by decide, hw, hf, hg, rfl⟩))
        have F := fin _ hP
        have eS := ord_ded (p := f) (q := g)
        rw [← eS] at F
        by_cases lv : lvG N = 0
        · rw [if_pos lv] at F
          refine iteB_p (decide_eq_true lv) ?_
          walk_at "wk"
          exact ⟨tD2 (p := f) (q := g), F⟩
        · rw [if_neg lv] at F
          refine iteB_n (decide_eq_false lv) ?_
          walk_at "wk"
          exact ⟨tD2 (p := f) (q := g), F⟩
      · walk_at "wkn"
        rw [dec_gi]
        refine iteB_n (decide_eq_false c0) ?_
        walk_at "wkn"
        rw [dec_gi]
        have F := fin _ (.inr (.inr (.inl ⟨c0, nw, rfl⟩)))
        by_cases lv : lvG N = 0
        · rw [if_pos lv] at F
          refine iteB_p (decide_eq_true lv) ?_
          walk_at "wkn"
          exact ⟨tD0, F⟩
        · rw [if_neg lv] at F
          refine iteB_n (decide_eq_false lv) ?_
          walk_at "wkn"
          exact ⟨tD0, F⟩

theorem wide7b {x : D} (h : x ∈ [D.int 1, .int 1, .int 2, .int 3, .int 9, .int 40, .int 1000]) : ∃ w : Int, x = .int w ∧ 1 ≤ w ∧ w ≤ 1000 ∧ (w + 999).toNat < 2 ^ 11 := by
  simp only [List.mem_cons, List.not_mem_nil, or_false] at h
  rcases h with rfl | rfl | rfl | rfl | rfl | rfl | rfl <;> exact ⟨_, rfl, by decide, by decide, by decide⟩
theorem w__law_built {T : Tk} {k : KD} (hT : TkS T) (h : ∀ f K due T', Bt f K due → TkS T' → k (.lst [mD f K, due]) T') : sm__law_built [.tank] T k := by
  rw [e__law_built, b__law_built]
  walk_at "wkn"
  refine w__law_of hT (by simp) (by simp) fun wd T1 hwd hT1 => ?_
  obtain ⟨w, rfl, w1, w2, hw⟩ := wide7b hwd
  walk_at "wkn"
  refine w__law_dip hT1 (by decide) (by decide) fun way T2 y0 y9 hT2 => ?_
  walk_at "wkn"
  refine iteB_of (fun c => ?_) (fun c => ?_)
  · walk_at "wkn"
    exact h 0 g1 _ T2 bt_one hT2
  · have c : ¬ way = 0 := of_decide_eq_false c
    walk_at "wkn"
    refine iteB_of (fun c1 => ?_) (fun c1 => ?_)
    · walk_at "wkn"
      refine w__law_roundW hT2 w1 (by omega) hw (by decide) fun r T3 hr hT3 => ?_
      walk_at "wkn"
      refine w__law_mirrorR (l := 11) (Int.ne_of_gt hr.bend) hr.mr.s (by decide) fun K hK => ?_
      walk_at "wkn"
      exact h 1 K _ T3 (bt_mir hr (by decide) hK (by decide)) hT3
    · have c1 : ¬ way = 1 := of_decide_eq_false c1
      walk_at "wkn"
      refine iteB_of (fun c2 => ?_) (fun c2 => ?_)
      · walk_at "wkn"
        exact w__law_any hT2 w1 (by omega) hw h
      · have c2 : ¬ 6 < way := of_decide_eq_false c2
        walk_at "wkn"
        refine w__law_nonzero hT2 w1 w2 fun few T3 f0 hf hT3 => ?_
        walk_at "wkn"
        refine w__law_inner hT3 w1 w2 f0 hf (by omega) (by omega) fun f D T4 hi hD hT4 => ?_
        walk_at "wkn"
        refine w__law_unlike hT4 w1 (by omega) hw fun u v z T5 hu hv hz uv uz vz hT5 => ?_
        walk_at "wkn"
        refine w__law_three hu hv hz ?_
        have nL := l3_n4 hu hv hz
        have dL := l3_dt hu hv hz uv uz vz
        obtain ⟨lu, lv⟩ := l3_led hu hv hz uz vz
        generalize LdT u v z = L at *
        walk_at "wkn"
        refine w__law_backW (.inl rfl) ?_
        walk_at "wkn"
        refine w__law_joinedW hi.flg (.inl rfl) hD nL (by decide) ?_
        rw [show (f + 0) % 2 = f by rcases hi.flg with rfl | rfl <;> rfl]
        walk_at "wkn"
        refine w__law_afterW (.inl rfl) hi.flg (n4_bk (f := 0) nL) (n4_pr (f := f) hD nL) (dt_bk dL) (dt_pr hi.dt dL) (by decide) fun K hK => ?_
        rw [show (0 + f) % 2 = f by rcases hi.flg with rfl | rfl <;> rfl]
        have B := bt_inn hi dL hK (by decide) lu lv (by decide) (by decide) uv
        have F := h f K _ T5 B hT5
        unfold dueW at F
        walk_at "wkn"
        by_cases c4 : way = 2 ∨ way = 4
        · rw [if_pos c4] at F
          refine iteB_p (by rcases c4 with rfl | rfl <;> simp) ?_
          walk_at "wkn"
          refine ⟨tD2 (p := u) (q := v), ?_⟩
          rw [← ord_isort uv] at F
          exact F
        · rw [if_neg c4] at F
          refine iteB_n (by simp; omega) ?_
          walk_at "wkn"
          by_cases c5 : way = 5
          · rw [if_pos c5] at F
            refine iteB_p (decide_eq_true c5) ?_
            walk_at "wkn"
            exact F
          · rw [if_neg c5] at F
            refine iteB_n (decide_eq_false c5) ?_
            walk_at "wkn"
            exact F
theorem mm_one {n p l l' : Nat} {r s : R4} {K c : G4} (hr : Rd n r) (hs : Rd p s) (hK : Fm l (MM r) K) (hc : Fm l' (MM s) c) : K = c ↔ r = s := by
  constructor
  · intro e
    subst e
    obtain ⟨a, a0, ea⟩ := hK.c
    obtain ⟨b, b0, eb⟩ := hc.c
    have sq := mm_sq r
    rw [ea, pr_scl] at sq
    have sc := Gi.mul_ne a0 (fl_ne (f := 1) a0)
    have e2 : Pr 1 (MM r) (MM s) = scl (a * fl 1 b) (Pr 1 K K) := by rw [ea, eb, pr_scl]
    generalize Pr 1 K K = M at sq e2
    generalize hM : a * fl 1 a = d at sq sc
    have m2 : M.2.1 = 0 := by
      have := congrArg (fun x : G4 => x.2.1) sq
      have : d * M.2.1 = io (bnd r) * 0 := this
      exact (Gi.mul_zero' (by rw [this]; grind)).resolve_left sc
    have m3 : M.2.2.1 = 0 := by
      have := congrArg (fun x : G4 => x.2.2.1) sq
      have : d * M.2.2.1 = io (bnd r) * 0 := this
      exact (Gi.mul_zero' (by rw [this]; grind)).resolve_left sc
    have m4 : M.1 = M.2.2.2 := by
      have h1 := congrArg (fun x : G4 => x.1) sq
      have h2 := congrArg (fun x : G4 => x.2.2.2) sq
      have h1 : d * M.1 = io (bnd r) * 1 := h1
      have h2 : d * M.2.2.2 = io (bnd r) * 1 := h2
      exact Gi.cancel sc (h1.trans h2.symm)
    refine mm_same hr hs ?_ ?_ ?_
    · rw [e2]
      show a * fl 1 b * M.2.1 = 0
      rw [m2]
      grind
    · rw [e2]
      show a * fl 1 b * M.2.2.1 = 0
      rw [m3]
      grind
    · rw [e2]
      show a * fl 1 b * M.1 = a * fl 1 b * M.2.2.2
      rw [m4]
  · intro e
    subst e
    exact hK.uniq hc
theorem ag_rnd {f : Int} {K : G4} {r : R4} (h : AgS f K (.tup [.str "round", rD r])) : ∃ l, Fm l (MM r) K := by
  generalize hd : D.tup [.str "round", rD r] = d at h
  cases h with
  | all h1 h2 => simp at hd
  | rnd r' l' hr hn hl h1 hK =>
    simp only [D.tup.injEq, List.cons.injEq, and_true, true_and] at hd
    obtain ⟨q1, q2, q3, q4⟩ := hd
    have e : r = r' := Prod.ext (D.int.inj q1) (Prod.ext (D.int.inj q2) (Prod.ext (D.int.inj q3) (D.int.inj q4)))
    rw [e]
    exact ⟨l', hK⟩
  | pls w s P st nm nw hs kp kd sg sp => simp at hd
theorem ag_pls {f : Int} {K : G4} {s : Int} {P : D} (h : AgS f K (.tup [.str "places", .int s, P])) : (f = 0 → K ≠ g1) ∧ (f = 1 → ∀ (r : R4) (l : Nat), 0 < bnd r → ¬ Fm l (MM r) K) := by
  generalize hd : D.tup [.str "places", .int s, P] = d at h
  cases h with
  | all h1 h2 => simp at hd
  | rnd r' l' hr hn hl h1 hK => simp at hd
  | pls w s P st nm nw hs kp kd sg sp => exact ⟨st, nm⟩
theorem sh_b3 (b c : Bool) : (D.lst [.bl b, .bl c, .non]).shOk := by
  refine lite_shOk (lite_lst (liteL_cons trivial (liteL_cons trivial (liteL_cons trivial liteL_nil)))) ?_ ?_ <;> cases b <;> cases c <;> exact Nat.le_of_ble_eq_true rfl
theorem sh_br {n : Nat} {r : R4} (hr : Rd n r) (hn : n ≤ 1900) (b c : Bool) : (D.lst [.bl b, .bl c, rD r]).shOk ∧ (D.lst [.bl b, rD r]).shOk := by
  refine ⟨lite_shOk (lite_lst (liteL_cons trivial (liteL_cons trivial (liteL_cons (hr.lite hn) liteL_nil)))) ?_ ?_, lite_shOk (lite_lst (liteL_cons trivial (liteL_cons (hr.lite hn) liteL_nil))) ?_ ?_⟩ <;> cases b <;> cases c <;> exact Nat.le_of_ble_eq_true rfl
theorem sh_due {f : Int} {K : G4} {due : D} (h : AgS f K due) : (D.lst [due, due, due, due]).shOk := by
  cases h with
  | all h1 h2 =>
    have l : (D.tup [.str "all"]).lite := lite_tup (liteL_cons ⟨by decide +kernel, by decide +kernel, by decide +kernel⟩ liteL_nil)
    exact lite_shOk (lite_lst (liteL_cons l (liteL_cons l (liteL_cons l (liteL_cons l liteL_nil))))) (Nat.le_of_ble_eq_true rfl) (Nat.le_of_ble_eq_true rfl)
  | rnd r l' hr hn hl h1 hK =>
    have l : (D.tup [.str "round", rD r]).lite := lite_tup (liteL_cons ⟨by decide +kernel, by decide +kernel, by decide +kernel⟩ (liteL_cons (hr.lite (by omega)) liteL_nil))
    exact lite_shOk (lite_lst (liteL_cons l (liteL_cons l (liteL_cons l (liteL_cons l liteL_nil))))) (Nat.le_of_ble_eq_true rfl) (Nat.le_of_ble_eq_true rfl)
  | pls w s P st nm nw hs kp kd sg sp =>
    have lP : P.lite := by
      rcases kp with rfl | rfl | ⟨a, rfl, ha⟩ | ⟨a, b, rfl, ha, hb⟩
      · unfold D.lite; trivial
      · exact lite_tup liteL_nil
      · exact lite_tup (liteL_cons (lite_pt ha (Nat.le_refl _)) liteL_nil)
      · exact lite_tup (liteL_cons (lite_pt ha (Nat.le_refl _)) (liteL_cons (lite_pt hb (Nat.le_refl _)) liteL_nil))
    have l : (D.tup [.str "places", .int s, P]).lite := lite_tup (liteL_cons ⟨by decide +kernel, by decide +kernel, by decide +kernel⟩ (liteL_cons (Sz.lite (n := 2) (by unfold Sz; omega) (by decide)) (liteL_cons lP liteL_nil)))
    have l4 := lite_lst (liteL_cons l (liteL_cons l (liteL_cons l (liteL_cons l liteL_nil))))
    clear l lP kd sg sp nm st
    rcases kp with rfl | rfl | ⟨a, rfl, ha⟩ | ⟨a, b, rfl, ha, hb⟩ <;> exact lite_shOk l4 (Nat.le_of_ble_eq_true rfl) (Nat.le_of_ble_eq_true rfl)
theorem w__law_right {T : Tk} {k : KD} (hT : TkS T) (h : ∀ T, k (.bl true) T) : sm__law_right [.tank] T k := by
  rw [e__law_right, b__law_right]
  walk_at "wkn"
  refine w__law_built hT fun f K due T1 B hT1 => ?_
  have q := B.q
  have ag := B.ag
  have bk := B.bk
  walk_at "wkn"
  refine w__law_mapW (n := 10) hT1 (by decide) (by decide) (by decide) (by decide) fun l L T2 hL hT2 => ?_
  have hL : Mq 24 l L := hL
  walk_at "wkn"
  refine w__law_roundW (n := 10) hT2 (by decide) (by decide) (by decide) (by decide) fun s T3 hs hT3 => ?_
  walk_at "wkn"
  refine w__law_afterW hL.fl q.fl hL.n4 q.n4 hL.dt q.dt (by decide) fun C hC => ?_
  have qC := hL.pr q hC
  obtain ⟨KB, hKB⟩ := fm_ex (n4_bk (f := f) q.n4) (dt_fst (dt_bk q.dt))
  have qB := q.bk hKB
  have agB := bk KB _ hKB
  have e1 : (l + (l + f) % 2) % 2 = f := by rcases hL.fl with rfl | rfl <;> rcases q.fl with rfl | rfl <;> rfl
  have e2 : ((l + f) % 2 + l) % 2 = f := by rcases hL.fl with rfl | rfl <;> rcases q.fl with rfl | rfl <;> rfl
  have s1 : ∀ b x, Fm 24 (Bk l L) b → Fm (24 + (24 + 300 + 2) + 2) (Pr l b C) x → x = K := fun b x hb hx => step1 hL q hC hb hx
  have s2 : ∀ b x, Fm (24 + 300 + 2) (Bk ((l + f) % 2) C) b → Fm (24 + 300 + 2 + 24 + 2) (Pr ((l + f) % 2) b L) x → x = KB := fun b x hb hx => step2 hL q hC hb hx hKB
  have s3 : ∀ b x, Fm 1 (Bk 0 g1) b → Fm (1 + 300 + 2) (Pr 0 b K) x → x = K := fun b x hb hx => step1 Mq.g1 q (by rw [pr_one]; exact q.fm) hb hx
  walk_at "wkn"
  refine w_agreement qC hL (by decide) e1 s1 q ag ?_
  walk_at "wkn"
  refine w_agreement hL qC (by decide) e2 s2 qB agB ?_
  walk_at "wkn"
  refine w_agreement qC hL (by decide) e1 s1 q ag ?_
  walk_at "wkn"
  refine w_agreement (m' := g1) (g := 0) q Mq.g1 (by decide) (by rcases q.fl with rfl | rfl <;> rfl) s3 q ag ?_
  walk_at "wkn"
  have sh := sh_due ag
  refine ⟨sh, sh, ?_⟩
  have ne1 : (Str.ofString "all" = Str.ofString "round") = False := by decide +kernel
  have ne2 : (Str.ofString "places" = Str.ofString "round") = False := by decide +kernel
  have ne3 : (Str.ofString "round" = Str.ofString "all") = False := by decide +kernel
  have ne4 : (Str.ofString "places" = Str.ofString "all") = False := by decide +kernel
  clear sh
  cases ag with
  | all h1 h2 =>
    subst h1 h2
    have kb : KB = g1 := by
      have e : Bk 0 g1 = g1 := by decide +kernel
      rw [e] at hKB
      exact hKB.uniq fm_g1
    subst kb
    walk_at "wkn"
    refine iteB_n (by rw [decide_eq_false]; rw [ne1]; exact id) ?_
    walk_at "wkn"
    refine w_agree_on qC hL hs (by decide) (by decide) e1 s1 fun c hc => ?_
    rw [decide_eq_true ⟨rfl, rfl⟩, Bool.true_or]
    walk_at "wkn"
    refine w_agree_on hL qC hs (by decide) (by decide) e2 s2 fun c hc => ?_
    rw [decide_eq_true ⟨rfl, rfl⟩, Bool.true_or]
    walk_at "wkn"
    refine w_mirror_round q (by decide) (.all rfl rfl) ?_
    rw [show rimOf (.tup [.str "all"]) = .non from rfl]
    walk_at "wkn"
    refine ⟨sh_b3 _ _, sh_b3 _ _, ?_⟩
    walk_at "wkn"
    exact h _
  | rnd r l' hr hn hl h1 hK =>
    subst h1
    obtain ⟨l'', hKB'⟩ := ag_rnd agB
    have ev : ∀ {J c : G4} {n : Nat} {x : R4} {a b : Nat}, Rd n x → Fm a (MM r) J → Fm b (MM x) c → (decide ((1 : Int) = 0 ∧ J = g1) || decide ((1 : Int) = 1 ∧ J = c)) = decide (r = x) := fun hx hJ hc => by
      have m := mm_one hr hx hJ hc
      simp [m]
    walk_at "wkn"
    rw [decide_eq_false (show ¬ Str.ofString "round" = Str.ofString "all" by rw [ne3]; exact id), Bool.false_or, r4_dc]
    refine w_agree_on qC hL hs (by decide) (by decide) e1 s1 fun c hc => ?_
    rw [ev hs hK hc]
    walk_at "wkn"
    refine w_agree_on hL qC hs (by decide) (by decide) e2 s2 fun c hc => ?_
    rw [ev hs hKB' hc]
    walk_at "wkn"
    refine w_mirror_round q (by decide) (.rnd r l' hr hn hl rfl hK) ?_
    rw [show rimOf (.tup [.str "round", rD r]) = rD r from rfl]
    walk_at "wkn"
    refine ⟨(sh_br hr (by omega) _ _).1, (sh_br hr (by omega) _ _).1, ?_⟩
    refine w_agree_on qC hL hr (by omega) (by decide) e1 s1 fun c hc => ?_
    rw [ev hr hK hc, decide_eq_true rfl]
    walk_at "wkn"
    refine w_mirror_round q (by decide) (.rnd r l' hr hn hl rfl hK) ?_
    rw [show rimOf (.tup [.str "round", rD r]) = rD r from rfl]
    walk_at "wkn"
    exact ⟨(sh_br hr (by omega) true true).2, (sh_br hr (by omega) true true).2, h _⟩
  | pls w s' P st nm nw hs' kp kd sg sp =>
    obtain ⟨st', nm'⟩ := ag_pls agB
    have ev : ∀ {J c : G4} {n b : Nat} {x : R4}, Rd n x → Fm b (MM x) c → (f = 0 → J ≠ g1) → (f = 1 → ∀ (r : R4) (l : Nat), 0 < bnd r → ¬ Fm l (MM r) J) → (decide (f = 0 ∧ J = g1) || decide (f = 1 ∧ J = c)) = false := fun hx hc a b => by
      rw [decide_eq_false (fun z => a z.1 z.2), decide_eq_false (fun z => b z.1 _ _ hx.bend (z.2 ▸ hc))]
      rfl
    walk_at "wkn"
    refine iteB_n (decide_eq_false (by rw [ne2]; exact id)) ?_
    walk_at "wkn"
    rw [decide_eq_false (show ¬ Str.ofString "places" = Str.ofString "all" by rw [ne4]; exact id)]
    refine w_agree_on qC hL hs (by decide) (by decide) e1 s1 fun c hc => ?_
    rw [ev hs hc st nm]
    walk_at "wkn"
    refine w_agree_on hL qC hs (by decide) (by decide) e2 s2 fun c hc => ?_
    rw [ev hs hc st' nm']
    walk_at "wkn"
    refine w_mirror_round q (by decide) (.pls w s' P st nm nw hs' kp kd sg sp) ?_
    rw [show rimOf (.tup [.str "places", .int s', P]) = .non from rfl]
    walk_at "wkn"
    refine ⟨sh_b3 _ _, sh_b3 _ _, ?_⟩
    walk_at "wkn"
    exact h _

theorem w_law {ns : List Int} (h : ns.length ≤ 63) : sm_law [.val (scrD ns)] [] fun r _ => r = .bl true := by
  rw [e_law, b_law]
  walk_at "wkn"
  refine w__law_rounds fun r hr => ?_
  rcases hr with rfl | rfl
  · walk_at "wki"
    refine w__law_well (ns := ns) (by decide) (by decide) fun T hT => ?_
    walk_at "wki"
    refine w__law_right hT fun T' => ?_
    walk_at "wki"
    refine w__law_well (ns := ns) (by decide) (by decide) fun T hT => ?_
    walk_at "wki"
    refine w__law_right hT fun T' => ?_
    walk_at "wki"
  · walk_at "wki"
    refine w__law_well (ns := ns) (by decide) (by decide) fun T hT => ?_
    walk_at "wki"
    refine w__law_right hT fun T' => ?_
    walk_at "wki"
    refine w__law_well (ns := ns) (by decide) (by decide) fun T hT => ?_
    walk_at "wki"
    refine w__law_right hT fun T' => ?_
    walk_at "wki"
    refine w__law_well (ns := ns) (by decide) (by decide) fun T hT => ?_
    walk_at "wki"
    refine w__law_right hT fun T' => ?_
    walk_at "wki"

theorem w_fin (ns : List Int) (h : ns.length ≤ 63) : sm_law [.val (scrD ns)] [] fun r _ => r = .bl true := w_law h
end L2.G
open PySem PySem.W PyProof.Rows in
set_option maxRecDepth 100000 in
set_option maxHeartbeats 0 in
theorem PySem.Challenge.cw_drawarms_k51_whole_agreement_of_maps_holds : PySem.Challenge.rw_drawarms_k51_whole_agreement_of_maps.Holds := by
  w_on; o_law
  refine HandSHeadRun.head_imp (r := PySem.W.OpenLaw.row PySem.Challenge.rw_drawarms_k51_whole_agreement_of_maps) (q := L2.G.hdV) (H := L2.G.hdK) (ob := L2.G.hdO) (M := 20000) (loose := L2.G.hdNames) (d := HandSHeadRun.topDef (PySem.W.OpenLaw.row PySem.Challenge.rw_drawarms_k51_whole_agreement_of_maps).prog 102) (kwd := []) L2.G.hdO_eq
    L2.G.hd_run (by kernel_rfl) (by kernel_rfl) (by kernel_rfl) (by rfl) (by first | assumption | decide +kernel) (by decide +kernel) ⟨rfl, rfl, rfl, rfl, rfl, by decide +kernel⟩ ?hw ?hc
  case hw => w_witness2
  case hc =>
    refine L2.G.g_walkE (l := PySem.Challenge.rw_drawarms_k51_whole_agreement_of_maps) (n := 63) (k := 12) (x := "law") (y := "_law_script") (sem := L2.G.sm_law) rfl (by decide) (by kernel_rfl) ⟨rfl, by decide, by decide⟩ (by kernel_rfl) ?F L2.G.w_fin
    intro w mg h Y G
    obtain ⟨K, KX, c⟩ := Y
    exact ⟨K, KX, fun base hK hG => L2.G.ok_law (L2.G.hd_tx hK hG c)⟩
