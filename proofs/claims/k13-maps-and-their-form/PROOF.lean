import PyProof.Rows.All
import Wide.All
import OpenK.AllK
import Wide.FinOn
import HandS.Base
import HandS.Call
import HandS.List
import HandS.Comp
import HandS.Ends
import HandS.Words
import HandS.Wide
import HandS.Gcd
import HandS.IsInst
import HandS.Conv
import HandS.TupAny
import HandS.WideBits
import HandS.Iter
import HandS.RaiseMore
import HandS.Deep
import HandS.ForMost
import HandS.Zip
import HandS.Style
import HandS.Star
import KE.GoesEnum
import HandS.NoneIn
import HandS.Dict
import HandS.TupSets
import KE.KSortTupG
import KE.KStateDown
import HandS.Exc
import KE.KTryMore
import HandS.Head0
import HandS.Head1
import HandS.Head2
import HandS.Head3
import HandS.HeadHook1
import HandS.ExcOwn
import HandS.TryOnly
import HandS.TupMul
import PySem.Challenge.RW_drawarms_k13_maps_and_their_form
set_option Elab.async false
set_option linter.all false
set_option maxRecDepth 100000
set_option maxHeartbeats 0
namespace L2.G
open PySem PySem.Spec PyProof.Rows

/-! data: what a Python value is, without the heap -/
inductive D where
  | non | bl (b : Bool) | int (i : Int) | str (x : Str) | tup (xs : List D) | lst (xs : List D)
  | obj (C : Addr) (ns : List Str) (vs : List D) | ref (a : Addr) | scr (xs : List D) | dct (ks : List Key) (ds : List D)

mutual
inductive Rep (K : PySem.W.Frag) (F : Hp) : D → V → Prop
  | non : Rep K F .non .non
  | bl (b : Bool) : Rep K F (.bl b) (.bl b)
  | int (i : Int) : Rep K F (.int i) (.int i)
  | str (x : Str) : Rep K F (.str x) (.str x)
  | tup {a : Addr} {xs : List V} {ds : List D} : SqT K F a xs → RepL K F ds xs → Rep K F (.tup ds) (.ref a)
  | lst {a : Addr} {xs : List V} {ds : List D} : F a = some (.lst xs) → RepL K F ds xs → Rep K F (.lst ds) (.ref a)
  | obj {a C dx : Addr} {fs : List (Str × V)} {ns : List Str} {ds : List D} : F a = some (.ins C dx fs) → fs.map (·.1) = ns → RepL K F ds (fs.map (·.2)) → Rep K F (.obj C ns ds) (.ref a)
  | ref (a : Addr) : (K.lookup a).isSome = true → Rep K F (.ref a) (.ref a)
  | scr {a : Addr} {xs : List V} {ds : List D} : SqL K F a xs → RepL K F ds xs → Rep K F (.scr ds) (.ref a)
  | dct {a : Addr} {kvs : List (Key × V)} {ks : List Key} {ds : List D} : F a = some (.dK kvs) → kvs.map (·.1) = ks → RepL K F ds (kvs.map (·.2)) → Rep K F (.dct ks ds) (.ref a)
inductive RepL (K : PySem.W.Frag) (F : Hp) : List D → List V → Prop
  | nil : RepL K F [] []
  | cons {d : D} {ds : List D} {v : V} {vs : List V} : Rep K F d v → RepL K F ds vs → RepL K F (d :: ds) (v :: vs)
end

theorem same_t {K : PySem.W.Frag} {F F' : Hp} {a : Addr} {xs : List V} (e : Same F F') (h : SqT K F a xs) : SqT K F' a xs := by
  rcases h with (h | ⟨o, h⟩) | h
  · left; left; exact e _ _ h
  · left; right; exact ⟨o, e _ _ h⟩
  · right; exact h

mutual
theorem Rep.mono {K : PySem.W.Frag} {F F' : Hp} (e : Same F F') : ∀ {d : D} {v : V}, Rep K F d v → Rep K F' d v
  | _, _, .non => .non
  | _, _, .bl b => .bl b
  | _, _, .int i => .int i
  | _, _, .str x => .str x
  | _, _, .tup h q => .tup (same_t e h) (RepL.mono e q)
  | _, _, .lst h q => .lst (e _ _ h) (RepL.mono e q)
  | _, _, .obj h n q => .obj (e _ _ h) n (RepL.mono e q)
  | _, _, .ref a h => .ref a h
  | _, _, .scr h q => .scr (e.seq h) (RepL.mono e q)
  | _, _, .dct h n q => .dct (e _ _ h) n (RepL.mono e q)
theorem RepL.mono {K : PySem.W.Frag} {F F' : Hp} (e : Same F F') : ∀ {ds : List D} {vs : List V}, RepL K F ds vs → RepL K F' ds vs
  | _, _, .nil => .nil
  | _, _, .cons h q => .cons (Rep.mono e h) (RepL.mono e q)
end
theorem RepL.len {K : PySem.W.Frag} {F : Hp} : ∀ {ds : List D} {vs : List V}, RepL K F ds vs → ds.length = vs.length
  | _, _, .nil => rfl
  | _, _, .cons _ q => by simp [RepL.len q]
theorem RepL.get {K : PySem.W.Frag} {F : Hp} : ∀ {ds : List D} {vs : List V} {i : Nat} {d : D}, RepL K F ds vs → ds[i]? = some d → ∃ v, vs[i]? = some v ∧ Rep K F d v
  | _, _, _, _, .nil, e => by simp at e
  | _, _, 0, _, .cons h _, e => by simp at e; subst e; exact ⟨_, rfl, h⟩
  | _, _, i + 1, _, .cons _ q, e => by
    obtain ⟨v, h1, h2⟩ := RepL.get (i := i) q (by simpa using e)
    exact ⟨v, by simpa using h1, h2⟩
theorem RepL.getV {K : PySem.W.Frag} {F : Hp} : ∀ {ds : List D} {vs : List V} {i : Nat} {v : V}, RepL K F ds vs → vs[i]? = some v → ∃ d, ds[i]? = some d ∧ Rep K F d v
  | _, _, _, _, .nil, e => by simp at e
  | _, _, 0, _, .cons h _, e => by simp at e; subst e; exact ⟨_, rfl, h⟩
  | _, _, i + 1, _, .cons _ q, e => by
    obtain ⟨v, h1, h2⟩ := RepL.getV (i := i) q (by simpa using e)
    exact ⟨v, by simpa using h1, h2⟩
theorem RepL.app {K : PySem.W.Frag} {F : Hp} : ∀ {ds es : List D} {vs ws : List V}, RepL K F ds vs → RepL K F es ws → RepL K F (ds ++ es) (vs ++ ws)
  | _, _, _, _, .nil, q => q
  | _, _, _, _, .cons h t, q => .cons h (RepL.app t q)
theorem RepL.take {K : PySem.W.Frag} {F : Hp} : ∀ {ds : List D} {vs : List V} (n : Nat), RepL K F ds vs → RepL K F (ds.take n) (vs.take n)
  | _, _, 0, _ => .nil
  | _, _, _ + 1, .nil => .nil
  | _, _, n + 1, .cons h t => .cons h (RepL.take n t)
theorem RepL.drop {K : PySem.W.Frag} {F : Hp} : ∀ {ds : List D} {vs : List V} (n : Nat), RepL K F ds vs → RepL K F (ds.drop n) (vs.drop n)
  | _, _, 0, q => q
  | _, _, _ + 1, .nil => .nil
  | _, _, n + 1, .cons _ t => RepL.drop n t
theorem RepL.set {K : PySem.W.Frag} {F : Hp} {d : D} {v : V} (r : Rep K F d v) : ∀ {ds : List D} {vs : List V} (n : Nat), RepL K F ds vs → RepL K F (ds.set n d) (vs.set n v)
  | _, _, _, .nil => .nil
  | _, _, 0, .cons _ t => .cons r t
  | _, _, n + 1, .cons h t => .cons h (RepL.set r n t)

/-! slots, worlds -/
abbrev Tk := List D
inductive SV where
  | val (d : D) | own (xs : List D) | tank
abbrev En := List (Option SV)
abbrev KD := D → Tk → Prop
abbrev dE := En → Tk → KD → Prop
abbrev dT := En → Tk → (Bool → Tk → Prop) → Prop
abbrev dA := En → Tk → (List SV → Tk → Prop) → Prop
structure dEnds where
  nx : En → Tk → Prop
  rt : KD
  bk : En → Tk → Prop
  ct : En → Tk → Prop
abbrev dS := dEnds → En → Tk → Prop

structure Wt (K : PySem.W.Frag) (T : Tk) (t : Option Addr) (F H : Hp) : Prop where
  sub : Same F H
  tank : ∀ a, t = some a → F a = none ∧ ∃ vs, H a = some (.lst vs) ∧ RepL K F T vs
structure Grow (t : Option Addr) (F H F' H' : Hp) : Prop where
  sub : Same F F'
  keep : ∀ a o, H a = some o → t ≠ some a → H' a = some o
  new : ∀ a o, H a = some o → F a = none → F' a = none
  there : ∀ a o, H a = some o → ∃ o', H' a = some o'
theorem Grow.refl (t : Option Addr) (F H : Hp) : Grow t F H F H := ⟨Same.refl _, fun _ _ h _ => h, fun _ _ _ h => h, fun _ o h => ⟨o, h⟩⟩
theorem Grow.trans {t : Option Addr} {F H F1 H1 F2 H2 : Hp} (a : Grow t F H F1 H1) (b : Grow t F1 H1 F2 H2) : Grow t F H F2 H2 :=
  ⟨a.sub.trans b.sub, fun c o h n => b.keep c o (a.keep c o h n) n, fun c o h n => let ⟨o', h'⟩ := a.there c o h; b.new c o' h' (a.new c o h n),
    fun c o h => let ⟨o', h'⟩ := a.there c o h; b.there c o' h'⟩

def SlotR (K : PySem.W.Frag) (t : Option Addr) (F H : Hp) : SV → V → Prop
  | .val d, v => Rep K F d v
  | .own xs, v => ∃ l vs, v = .ref l ∧ F l = none ∧ H l = some (.lst vs) ∧ RepL K F xs vs ∧ t ≠ some l
  | .tank, v => ∃ a, t = some a ∧ v = .ref a
structure Wd (K : PySem.W.Frag) (ρ : En) (T : Tk) (t : Option Addr) (σ : L2.St) (F H : Hp) : Prop where
  wt : Wt K T t F H
  len : ρ.length = σ.length
  slot : ∀ (i : Nat) s, ρ[i]? = some (some s) → ∃ v, σ[i]? = some (some v) ∧ SlotR K t F H s v
  apart : ∀ (i j : Nat) xs ys l, ρ[i]? = some (some (.own xs)) → ρ[j]? = some (some (.own ys)) → σ[i]? = some (some (.ref l)) → σ[j]? = some (some (.ref l)) → i = j
theorem SlotR.grow {K : PySem.W.Frag} {t : Option Addr} {F H F' H' : Hp} (g : Grow t F H F' H') : ∀ {s : SV} {v : V}, SlotR K t F H s v → SlotR K t F' H' s v
  | .val _, _, h => Rep.mono g.sub h
  | .own _, _, ⟨l, vs, e, n, h, r, ne⟩ => ⟨l, vs, e, g.new _ _ h n, g.keep _ _ h ne, r.mono g.sub, ne⟩
  | .tank, _, h => h
theorem Wd.grow {K : PySem.W.Frag} {ρ : En} {T T' : Tk} {t : Option Addr} {σ : L2.St} {F H F' H' : Hp} (w : Wd K ρ T t σ F H) (g : Grow t F H F' H') (w' : Wt K T' t F' H') : Wd K ρ T' t σ F' H' :=
  ⟨w', w.len, fun i s e => let ⟨v, h1, h2⟩ := w.slot i s e; ⟨v, h1, h2.grow g⟩, w.apart⟩

/-! readings -/
def Fin (K : PySem.W.Frag) (t : Option Addr) (F H : Hp) (k : KD) (Q : VK) : Prop := ∀ v H' F' d T', Wt K T' t F' H' → Grow t F H F' H' → Rep K F' d v → k d T' → Q v H'
def tD (K : PySem.W.Frag) (f : dE) : TE := fun σ H Q => ∃ ρ T t F k, Wd K ρ T t σ F H ∧ f ρ T k ∧ Fin K t F H k Q
def tDT (K : PySem.W.Frag) (f : dT) : TT := fun σ H Q => ∃ ρ T t F k, Wd K ρ T t σ F H ∧ f ρ T k ∧ ∀ b H' F' T', Wt K T' t F' H' → Grow t F H F' H' → k b T' → Q b H'
inductive ArgL (K : PySem.W.Frag) (t : Option Addr) (F : Hp) : List SV → List V → Prop
  | nil : ArgL K t F [] []
  | val {d : D} {v : V} {as : List SV} {vs : List V} : Rep K F d v → ArgL K t F as vs → ArgL K t F (.val d :: as) (v :: vs)
  | tank {a : Addr} {as : List SV} {vs : List V} : t = some a → ArgL K t F as vs → ArgL K t F (.tank :: as) (.ref a :: vs)
theorem ArgL.mono {K : PySem.W.Frag} {t : Option Addr} {F F' : Hp} (e : Same F F') : ∀ {as : List SV} {vs : List V}, ArgL K t F as vs → ArgL K t F' as vs
  | _, _, .nil => .nil
  | _, _, .val r q => .val (r.mono e) (q.mono e)
  | _, _, .tank h q => .tank h (q.mono e)
theorem ArgL.len {K : PySem.W.Frag} {t : Option Addr} {F : Hp} : ∀ {as : List SV} {vs : List V}, ArgL K t F as vs → as.length = vs.length
  | _, _, .nil => rfl
  | _, _, .val _ q => by simp [q.len]
  | _, _, .tank _ q => by simp [q.len]
def tDA (K : PySem.W.Frag) (f : dA) : TA := fun σ H Q => ∃ ρ T t F k, Wd K ρ T t σ F H ∧ f ρ T k ∧ ∀ vs H' F' as T', Wt K T' t F' H' → Grow t F H F' H' → ArgL K t F' as vs → k as T' → Q vs H'
abbrev PEd (X : Cx) (e : Expr) (f : dE) : Prop := PE X e (tD X.K f)
abbrev PTd (X : Cx) (e : Expr) (f : dT) : Prop := PT X e (tDT X.K f)
abbrev PAd (X : Cx) (es : List Expr) (f : dA) : Prop := PA X es (tDA X.K f)
theorem pe_imp {X : Cx} {e : Expr} {t u : TE} (h : PE X e t) (i : ∀ σ H Q, u σ H Q → t σ H Q) : PE X e u := ⟨fun pins s σ H Q I q => h.run pins s σ H Q I (i _ _ _ q)⟩
theorem pt_imp {X : Cx} {e : Expr} {t u : TT} (h : PT X e t) (i : ∀ σ H Q, u σ H Q → t σ H Q) : PT X e u := ⟨fun pins s σ H Q I q => h.run pins s σ H Q I (i _ _ _ q)⟩
theorem pw_imp {X : Cx} {e : Expr} {t u : TT} (h : PW X e t) (i : ∀ σ H Q, u σ H Q → t σ H Q) : PW X e u := ⟨fun wh pins s σ H Q I q => h.run wh pins s σ H Q I (i _ _ _ q)⟩
theorem pa_imp {X : Cx} {e : List Expr} {t u : TA} (h : PA X e t) (i : ∀ σ H Q, u σ H Q → t σ H Q) : PA X e u := ⟨fun pos pins s σ H Q I q => h.run pos pins s σ H Q I (i _ _ _ q)⟩
theorem ps_imp {X : Cx} {e : Stmt} {t u : TS} (h : PS X e t) (i : ∀ K σ H, u K σ H → t K σ H) : PS X e u := ⟨fun pins s σ H K I q => h.run pins s σ H K I (i _ _ _ q)⟩
theorem pss_imp {X : Cx} {e : List Stmt} {t u : TS} (h : PSs X e t) (i : ∀ K σ H, u K σ H → t K σ H) : PSs X e u := ⟨fun pins s σ H K I q => h.run pins s σ H K I (i _ _ _ q)⟩

theorem Fin.then {K : PySem.W.Frag} {t : Option Addr} {F H F' H' : Hp} {k : KD} {Q : VK} (f : Fin K t F H k Q) (g : Grow t F H F' H') : Fin K t F' H' k Q :=
  fun v H2 F2 d T2 w g2 r q => f v H2 F2 d T2 w (g.trans g2) r q
/-- a value that needs nothing new -/
theorem Fin.val {K : PySem.W.Frag} {t : Option Addr} {F H : Hp} {k : KD} {Q : VK} {T : Tk} {d : D} {v : V} (f : Fin K t F H k Q) (w : Wt K T t F H) (r : Rep K F d v) (q : k d T) : Q v H :=
  f v H F d T w (Grow.refl _ _ _) r q
theorem same_upd {F : Hp} {p : Addr} {o : HO} (h : F p = none) : Same F (upd F p o) := fun b u e => by rw [upd_ne (ne_of_none e h)]; exact e
theorem grow_new {t : Option Addr} {F H : Hp} {p : Addr} {o : HO} (s : Same F H) (h : H p = none) : Grow t F H (upd F p o) (upd H p o) := by
  have hF : F p = none := s.free h
  refine ⟨same_upd hF, fun a u e _ => same_upd h a u e, fun a u e n => ?_, fun a u e => ⟨u, same_upd h a u e⟩⟩
  rw [upd_ne (ne_of_none e h)]
  exact n
theorem grow_own {t : Option Addr} {F H : Hp} {p : Addr} {o : HO} (s : Same F H) (h : H p = none) : Grow t F H F (upd H p o) :=
  ⟨Same.refl _, fun a u e _ => same_upd h a u e, fun _ _ _ n => n, fun a u e => ⟨u, same_upd h a u e⟩⟩
theorem same_both {F H : Hp} {p : Addr} {o : HO} (s : Same F H) : Same (upd F p o) (upd H p o) := fun b u e => by
  by_cases hb : b = p
  · subst hb; rw [upd_same] at e ⊢; exact e
  · rw [upd_ne hb] at e ⊢; exact s b u e
theorem wt_new {K : PySem.W.Frag} {T : Tk} {t : Option Addr} {F H : Hp} {p : Addr} {o : HO} (w : Wt K T t F H) (h : H p = none) : Wt K T t (upd F p o) (upd H p o) := by
  refine ⟨same_both w.sub, fun a e => ?_⟩
  obtain ⟨n, vs, hv, r⟩ := w.tank a e
  have na : a ≠ p := ne_of_none hv h
  exact ⟨by rw [upd_ne na]; exact n, vs, by rw [upd_ne na]; exact hv, r.mono (same_upd (w.sub.free h))⟩
theorem wt_own {K : PySem.W.Frag} {T : Tk} {t : Option Addr} {F H : Hp} {p : Addr} {o : HO} (w : Wt K T t F H) (h : H p = none) : Wt K T t F (upd H p o) := by
  refine ⟨w.sub.trans (same_upd h), fun a e => ?_⟩
  obtain ⟨n, vs, hv, r⟩ := w.tank a e
  exact ⟨n, vs, same_upd h a _ hv, r⟩
theorem Fin.tup {K : PySem.W.Frag} {t : Option Addr} {F H : Hp} {k : KD} {Q : VK} {T : Tk} {ds : List D} {vs : List V} {p : Addr} (f : Fin K t F H k Q) (w : Wt K T t F H) (r : RepL K F ds vs) (h : H p = none) (q : k (.tup ds) T) : Q (.ref p) (upd H p (.tup vs)) :=
  f _ _ (upd F p (.tup vs)) _ T (wt_new w h) (grow_new w.sub h) (.tup (.of upd_same) (r.mono (same_upd (w.sub.free h)))) q
theorem Fin.lst {K : PySem.W.Frag} {t : Option Addr} {F H : Hp} {k : KD} {Q : VK} {T : Tk} {ds : List D} {vs : List V} {p : Addr} (f : Fin K t F H k Q) (w : Wt K T t F H) (r : RepL K F ds vs) (h : H p = none) (q : k (.lst ds) T) : Q (.ref p) (upd H p (.lst vs)) :=
  f _ _ (upd F p (.lst vs)) _ T (wt_new w h) (grow_new w.sub h) (.lst upd_same (r.mono (same_upd (w.sub.free h)))) q
theorem Fin.dct0 {K : PySem.W.Frag} {t : Option Addr} {F H : Hp} {k : KD} {Q : VK} {T : Tk} {p : Addr} (f : Fin K t F H k Q) (w : Wt K T t F H) (h : H p = none) (q : k (.dct [] []) T) : Q (.ref p) (upd H p (.dK [])) :=
  f _ _ (upd F p (.dK [])) _ T (wt_new w h) (grow_new w.sub h) (.dct upd_same rfl .nil) q
theorem rep_bl {K : PySem.W.Frag} {F : Hp} {i : Bool} {v : V} (r : Rep K F (.bl i) v) : v = .bl i := by cases r; rfl
theorem rep_tup {K : PySem.W.Frag} {F : Hp} {ds : List D} {v : V} (r : Rep K F (.tup ds) v) : ∃ a vs, v = .ref a ∧ SqT K F a vs ∧ RepL K F ds vs := by cases r with | tup h q => exact ⟨_, _, rfl, h, q⟩
theorem rep_lst {K : PySem.W.Frag} {F : Hp} {ds : List D} {v : V} (r : Rep K F (.lst ds) v) : ∃ a vs, v = .ref a ∧ F a = some (.lst vs) ∧ RepL K F ds vs := by cases r with | lst h q => exact ⟨_, _, rfl, h, q⟩
theorem rep_scr {K : PySem.W.Frag} {F : Hp} {ds : List D} {v : V} (r : Rep K F (.scr ds) v) : ∃ a vs, v = .ref a ∧ SqL K F a vs ∧ RepL K F ds vs := by cases r with | scr h q => exact ⟨_, _, rfl, h, q⟩
end L2.G

namespace L2.G
open PySem PySem.Spec PyProof.Rows

section
variable {X : Cx}
/-! names, constants -/
def dVar (i : Nat) : dE := fun ρ T k => match ρ[i]? with | some (some (.val d)) => k d T | _ => False
theorem d_var (i : Nat) {x : Str} {pos : Pos} (hN : X.N[i]? = some x := by rfl) (hv : Vis X.env.scope x := by first | exact Or.inl rfl | exact Or.inr (Or.inl rfl) | exact Or.inr (Or.inr rfl))
    (hd : (x == ("__debug__" : Str)) = false := by decide) (hc : (x == ("__classdict__" : Str)) = false := by decide) : PEd X (.Name x pos) (dVar i) := by
  refine pe_imp (pe_var hN hv hd hc) fun σ H Q h => ?_
  obtain ⟨ρ, T, t, F, k, w, h, f⟩ := h
  unfold dVar at h
  split at h
  · rename_i d e
    obtain ⟨v, e1, r⟩ := w.slot i _ e
    exact ⟨v, e1, f.val w.wt r h⟩
  · exact h.elim
def dC (d : D) : dE := fun _ T k => k d T
theorem d_const {e : Expr} {v : V} {d : D} (h : PE X e (tC v)) (r : ∀ F, Rep X.K F d v) : PEd X e (dC d) := by
  refine pe_imp h fun σ H Q h => ?_
  obtain ⟨ρ, T, t, F, k, w, h, f⟩ := h
  exact f.val w.wt (r F) h
theorem d_int {i : Int} {j pos} : PEd X (.Constant (.int i) j pos) (dC (.int i)) := d_const pe_int fun _ => .int i
theorem d_bl {i : Bool} {j pos} : PEd X (.Constant (.bool i) j pos) (dC (.bl i)) := d_const pe_bl fun _ => .bl i
theorem d_non {j pos} : PEd X (.Constant .none j pos) (dC .non) := d_const pe_non fun _ => .non
theorem d_str {x : Str} {j pos} : PEd X (.Constant (.str x) j pos) (dC (.str x)) := d_const pe_str fun _ => .str x
/-- a constant of the module -/
theorem d_glob {x : Str} {v : V} {u : Value} {d : D} {pos : Pos} (hg : Gl X x) (hm : X.mg x = some u) (q : RelV v u) (r : ∀ F, Rep X.K F d v) (hd : (x == ("__debug__" : Str)) = false := by decide) : PEd X (.Name x pos) (dC d) :=
  d_const (pe_glob hg hm q hd) r

/-! two places -/
abbrev Op2 := D → D → (D → Prop) → Prop
def dOp (o : Op2) (fa fb : dE) : dE := fun ρ T k => fa ρ T fun x T1 => fb ρ T1 fun y T2 => o x y fun d => k d T2
def OpS (K : PySem.W.Frag) (r : R2) (o : Op2) : Prop := ∀ {t : Option Addr} {F H : Hp} {T : Tk} {x y : D} {v w : V} {k : KD} {Q : VK}, Wt K T t F H → Rep K F x v → Rep K F y w → o x y (fun d => k d T) → Fin K t F H k Q → r v w H Q
/-- two expressions, one behind the other -/
theorem two {K : PySem.W.Frag} {fa fb : dE} {o : D → D → Tk → KD → Prop} {σ : L2.St} {H : Hp} {Q : VK} {R : V → V → Hp → VK → Prop}
    (s : ∀ {t : Option Addr} {F H : Hp} {T : Tk} {x y : D} {v w : V} {k : KD}, Wt K T t F H → Rep K F x v → Rep K F y w → o x y T k → Fin K t F H k Q → R v w H Q)
    (h : tD K (fun ρ T k => fa ρ T fun x T1 => fb ρ T1 fun y T2 => o x y T2 k) σ H Q) : tD K fa σ H fun v H1 => tD K fb σ H1 fun w H2 => R v w H2 Q := by
  obtain ⟨ρ, T, t, F, k, w, h, f⟩ := h
  refine ⟨ρ, T, t, F, _, w, h, fun v H1 F1 x T1 w1 g1 r1 h1 => ?_⟩
  refine ⟨ρ, T1, t, F1, _, w.grow g1 w1, h1, fun u H2 F2 y T2 w2 g2 r2 h2 => ?_⟩
  exact s w2 (r1.mono g2.sub) r2 h2 (f.then (g1.trans g2))
theorem d_op {op : Operator} {r : R2} {o : Op2} {a b : Expr} {fa fb : dE} {pos : Pos} (ho : OpR X (binaryOp op) r) (s : OpS X.K r o) (ha : PEd X a fa) (hb : PEd X b fb) : PEd X (.BinOp a op b pos) (dOp o fa fb) :=
  pe_imp (pe_op ho ha hb) fun σ H Q h => two (o := fun x y T k => o x y fun d => k d T) (fun w r1 r2 q f => s w r1 r2 q f) h
theorem d_cmp {op : CmpOp} {r : R2} {o : Op2} {a b : Expr} {fa fb : dE} {pos : Pos} (ho : OpR X (compareOp op) r) (s : OpS X.K r o) (ha : PEd X a fa) (hb : PEd X b fb) (hm : behindInMarks op b = false) : PEd X (.Compare a [op] [b] pos) (dOp o fa fb) :=
  pe_imp (pe_cmpR ho ha hb hm) fun σ H Q h => two (o := fun x y T k => o x y fun d => k d T) (fun w r1 r2 q f => s w r1 r2 q f) h

/-- ints -/
def oI (g : Int → Int → Int) : Op2 := fun x y k => match x, y with | .int i, .int j => k (.int (g i j)) | _, _ => False
def oIC (C : Int → Int → Prop) (g : Int → Int → Int) : Op2 := fun x y k => match x, y with | .int i, .int j => C i j ∧ k (.int (g i j)) | _, _ => False
def oB (g : Int → Int → Bool) : Op2 := fun x y k => match x, y with | .int i, .int j => k (.bl (g i j)) | _, _ => False
theorem oI_ok {K : PySem.W.Frag} {g : Int → Int → Int} : OpS K (rI0 fun i j => .int (g i j)) (oI g) := by
  intro t F H T x y v w k Q wt r1 r2 q f
  unfold oI at q
  split at q
  · cases r1; cases r2; exact ⟨_, _, rfl, rfl, f.val wt (.int _) q⟩
  · exact q.elim
theorem oIC_ok {K : PySem.W.Frag} {C : Int → Int → Prop} {g : Int → Int → Int} : OpS K (rI C fun i j => .int (g i j)) (oIC C g) := by
  intro t F H T x y v w k Q wt r1 r2 q f
  unfold oIC at q
  split at q
  · cases r1; cases r2; exact ⟨_, _, rfl, rfl, q.1, f.val wt (.int _) q.2⟩
  · exact q.elim
theorem oB_ok {K : PySem.W.Frag} {g : Int → Int → Bool} : OpS K (rI0 fun i j => .bl (g i j)) (oB g) := by
  intro t F H T x y v w k Q wt r1 r2 q f
  unfold oB at q
  split at q
  · cases r1; cases r2; exact ⟨_, _, rfl, rfl, f.val wt (.bl _) q⟩
  · exact q.elim
/-- sizes -/
def MulOk (i j : Int) : Prop := (i.natAbs < 2 ^ 64 ∨ j.natAbs < 2 ^ 64) ∨ (i.natAbs < 2 ^ 400000 ∧ j.natAbs < 2 ^ 400000)
def DivOk (_ j : Int) : Prop := 0 < j ∧ j.natAbs < 2 ^ 9000
theorem mulQ_of {i j : Int} (h : MulOk i j) : IntMulOk i j := by
  rcases h with h | h
  · exact CMul.ok (h.elim (fun h => .inl (by omega)) fun h => .inr (by omega))
  · exact (wide_mul h.1 h.2 (by decide) (by decide) (by decide)).ok
theorem divW_of {i j : Int} (h : DivOk i j) : CDivW i j := wide_div h.1 h.2 (by decide) (by decide)
theorem op_mulQ : OpR X (binaryOp .Mult) (rI MulOk fun i j => .int (i * j)) := opI fun _ _ _ _ _ _ _ hc q => mul_int q (mulQ_of hc)
theorem op_divQ : OpR X (binaryOp .FloorDiv) (rI DivOk fun i j => .int (i / j)) := fun pins s σ H x y v u Q I rx ry ⟨i, j, e1, e2, c, q⟩ => op_fdivW pins s σ H x y v u Q I rx ry ⟨i, j, e1, e2, divW_of c, q⟩
variable {a b : Expr} {fa fb : dE} {pos : Pos}
/-- -a -/
def dNeg (fa : dE) : dE := fun ρ T k => fa ρ T fun x T1 => match x with | .int i => k (.int (-i)) T1 | _ => False
theorem d_neg (ha : PEd X a fa) : PEd X (.UnaryOp .USub a pos) (dNeg fa) := by
  refine pe_imp (pe_un un_neg ha) fun σ H Q h => ?_
  obtain ⟨ρ, T, t, F, k, w, h, f⟩ := h
  refine ⟨ρ, T, t, F, _, w, h, fun v H1 F1 x T1 w1 g1 r1 h1 => ?_⟩
  split at h1
  · cases r1; exact ⟨_, rfl, (f.then g1).val w1 (.int _) h1⟩
  · exact h1.elim

/-! equality of data -/
mutual
def D.py : D → PyData
  | .non => .none | .bl b => .bool b | .int i => .int i | .str x => .str x | .tup xs => .tuple (D.pyL xs) | .lst xs => .list (D.pyL xs) | .obj _ _ _ => .dict [] | .ref _ => .dict [] | .scr _ => .dict [] | .dct _ _ => .dict []
def D.pyL : List D → List PyData
  | [] => [] | x :: r => x.py :: D.pyL r
end
mutual
def D.isPy : D → Bool
  | .non => true | .bl _ => true | .int _ => true | .str _ => true | .tup xs => D.isPyL xs | .lst xs => D.isPyL xs | .obj _ _ _ => false | .ref _ => false | .scr _ => false | .dct _ _ => false
def D.isPyL : List D → Bool
  | [] => true | x :: r => x.isPy && D.isPyL r
end
mutual
theorem Rep.dp {K : PySem.W.Frag} {F H : Hp} (s : Same F H) : ∀ {d : D} {v : V}, Rep K F d v → d.isPy = true → Dp K H v d.py
  | _, _, .non, _ => .non
  | _, _, .bl b, _ => .bl b
  | _, _, .int i, _ => .int i
  | _, _, .str x, _ => .str x
  | _, _, .tup h q, p => .tup (same_t s h) (RepL.dp s q (by simpa [D.isPy] using p))
  | _, _, .lst h q, p => .lst (.of (s _ _ h)) (RepL.dp s q (by simpa [D.isPy] using p))
  | _, _, .obj _ _ _, p => by simp [D.isPy] at p
  | _, _, .ref _ _, p => by simp [D.isPy] at p
  | _, _, .scr _ _, p => by simp [D.isPy] at p
  | _, _, .dct _ _ _, p => by simp [D.isPy] at p
theorem RepL.dp {K : PySem.W.Frag} {F H : Hp} (s : Same F H) : ∀ {ds : List D} {vs : List V}, RepL K F ds vs → D.isPyL ds = true → DpAll K H vs (D.pyL ds)
  | _, _, .nil, _ => .nil
  | _, _, .cons h q, p => by
    simp only [D.isPyL, Bool.and_eq_true] at p
    exact .cons (Rep.dp s h p.1) (RepL.dp s q p.2)
end
/-- data that == compares -/
def D.eqOk (d : D) : Prop := d.isPy = true ∧ SeqAt.shaped d.py = true
def eqD (x y : D) : Bool := PyData.eqv x.py y.py
def oEq : Op2 := fun x y k => x.eqOk ∧ y.eqOk ∧ k (.bl (eqD x y))
def oNe : Op2 := fun x y k => x.eqOk ∧ y.eqOk ∧ k (.bl (!eqD x y))
theorem oEq_ok {K : PySem.W.Frag} : OpS K (rEqD K) oEq := fun wt r1 r2 ⟨p1, p2, q⟩ f => ⟨_, _, r1.dp wt.sub p1.1, r2.dp wt.sub p2.1, p1.2, p2.2, f.val wt (.bl _) q⟩
theorem oNe_ok {K : PySem.W.Frag} : OpS K (rNeD K) oNe := fun wt r1 r2 ⟨p1, p2, q⟩ f => ⟨_, _, r1.dp wt.sub p1.1, r2.dp wt.sub p2.1, p1.2, p2.2, f.val wt (.bl _) q⟩
/-- == of two ints, two texts, None .. (scalars) -/
def oEqI : Op2 := fun x y k => match x, y with | .int i, .int j => k (.bl (decide (i = j))) | .str i, .str j => k (.bl (decide (i = j))) | .bl i, .bl j => k (.bl (decide (i = j))) | _, _ => False
def oNeI : Op2 := fun x y k => match x, y with | .int i, .int j => k (.bl (!decide (i = j))) | .str i, .str j => k (.bl (!decide (i = j))) | .bl i, .bl j => k (.bl (!decide (i = j))) | _, _ => False
theorem oEqI_ok {K : PySem.W.Frag} : OpS K rEq oEqI := by
  intro t F H T x y v w k Q wt r1 r2 q f
  unfold oEqI at q
  split at q
  · cases r1; cases r2; exact ⟨rfl, by have := f.val wt (.bl _) q; simpa using this⟩
  · cases r1; cases r2; exact ⟨rfl, by have := f.val wt (.bl _) q; simpa using this⟩
  · cases r1; cases r2; exact ⟨rfl, by have := f.val wt (.bl _) q; simpa using this⟩
  · exact q.elim
theorem oNeI_ok {K : PySem.W.Frag} : OpS K rNe oNeI := by
  intro t F H T x y v w k Q wt r1 r2 q f
  unfold oNeI at q
  split at q
  · cases r1; cases r2; exact ⟨rfl, by have := f.val wt (.bl _) q; simpa using this⟩
  · cases r1; cases r2; exact ⟨rfl, by have := f.val wt (.bl _) q; simpa using this⟩
  · cases r1; cases r2; exact ⟨rfl, by have := f.val wt (.bl _) q; simpa using this⟩
  · exact q.elim
/-- is None -/
def D.isNon : D → Bool | .non => true | _ => false
def dIsN (fa : dE) : dE := fun ρ T k => fa ρ T fun x T1 => k (.bl x.isNon) T1
def dNotN (fa : dE) : dE := fun ρ T k => fa ρ T fun x T1 => k (.bl (!x.isNon)) T1
/-! tests -/
def dTst (fa : dE) : dT := fun ρ T k => fa ρ T fun x T1 => match x with | .bl c => k c T1 | _ => False
theorem d_tst (ha : PEd X a fa) (he : ∀ whole, isTrue a X.env whole = (do let v ← whole; standAt a.pos; holding [v] (truthy v)) := by intro _; rfl) : PTd X a (dTst fa) := by
  refine pt_imp (pt_val ha he) fun σ H Q h => ?_
  obtain ⟨ρ, T, t, F, k, w, h, f⟩ := h
  refine ⟨ρ, T, t, F, _, w, h, fun v H1 F1 x T1 w1 g1 r1 h1 => ?_⟩
  split at h1
  · cases r1; exact ⟨_, rfl, f _ _ _ _ w1 g1 h1⟩
  · exact h1.elim
/-- a comparison of two, as a test -/
theorem d_tcmp {op : CmpOp} {r : R2} {o : Op2} (ho : OpR X (compareOp op) r) (s : OpS X.K r o) (ha : PEd X a fa) (hb : PEd X b fb) (hm : behindInMarks op b = false) : PTd X (.Compare a [op] [b] pos) (dTst (dOp o fa fb)) := by
  refine pt_imp (pt_cmpR ho ha hb hm) fun σ H Q h => ?_
  obtain ⟨ρ, T, t, F, k, w, h, f⟩ := h
  have h' : tD X.K (dOp o fa fb) σ H (fun x H' => ∃ c, x = .bl c ∧ Q c H') := by
    refine ⟨ρ, T, t, F, _, w, h, fun v H1 F1 x T1 w1 g1 r1 h1 => ?_⟩
    split at h1
    · cases r1; exact ⟨_, rfl, f _ _ _ _ w1 g1 h1⟩
    · exact h1.elim
  exact two (o := fun x y T k => o x y fun d => k d T) (fun w r1 r2 q f => s w r1 r2 q f) h'
abbrev PWd (X : Cx) (e : Expr) (f : dT) : Prop := PW X e (tDT X.K f)
variable {ta tb : dT} {rest : List Expr}
def dAnd (ta tb : dT) : dT := fun ρ T k => ta ρ T fun c T1 => if c = true then tb ρ T1 k else k false T1
def dOr (ta tb : dT) : dT := fun ρ T k => ta ρ T fun c T1 => if c = true then k true T1 else tb ρ T1 k
def dNot (ta : dT) : dT := fun ρ T k => ta ρ T fun c T1 => k (!c) T1
theorem d_tnot (ha : PTd X a ta) : PTd X (.UnaryOp .Not a pos) (dNot ta) := by
  refine pt_imp (pt_not ha) fun σ H Q h => ?_
  obtain ⟨ρ, T, t, F, k, w, h, f⟩ := h
  exact ⟨ρ, T, t, F, _, w, h, fun v H1 F1 T1 w1 g1 h1 => f _ _ _ _ w1 g1 h1⟩
theorem d_w1a (ha : PTd X a ta) : PWd X (.BoolOp .And [a] pos) ta := pw_and1 ha
theorem d_w1o (ha : PTd X a ta) : PWd X (.BoolOp .Or [a] pos) ta := pw_or1 ha
theorem d_wand (ha : PTd X a ta) (hb : PWd X (.BoolOp .And (b :: rest) pos) tb) : PWd X (.BoolOp .And (a :: b :: rest) pos) (dAnd ta tb) := by
  refine pw_imp (pw_and ha hb) fun σ H Q h => ?_
  obtain ⟨ρ, T, t, F, k, w, h, f⟩ := h
  refine ⟨ρ, T, t, F, _, w, h, fun c H1 F1 T1 w1 g1 h1 => ?_⟩
  cases c with
  | true => exact ⟨ρ, T1, t, F1, k, w.grow g1 w1, h1, fun b H2 F2 T2 w2 g2 h2 => f _ _ _ _ w2 (g1.trans g2) h2⟩
  | false => exact f _ _ _ _ w1 g1 h1
theorem d_wor (ha : PTd X a ta) (hb : PWd X (.BoolOp .Or (b :: rest) pos) tb) : PWd X (.BoolOp .Or (a :: b :: rest) pos) (dOr ta tb) := by
  refine pw_imp (pw_or ha hb) fun σ H Q h => ?_
  obtain ⟨ρ, T, t, F, k, w, h, f⟩ := h
  refine ⟨ρ, T, t, F, _, w, h, fun c H1 F1 T1 w1 g1 h1 => ?_⟩
  cases c with
  | false => exact ⟨ρ, T1, t, F1, k, w.grow g1 w1, h1, fun b H2 F2 T2 w2 g2 h2 => f _ _ _ _ w2 (g1.trans g2) h2⟩
  | true => exact f _ _ _ _ w1 g1 h1
/-- and, or, not as values of truth -/
def dAndV (fa fb : dE) : dE := fun ρ T k => fa ρ T fun x T1 => match x with | .bl c => if c = true then fb ρ T1 k else k (.bl false) T1 | _ => False
def dOrV (fa fb : dE) : dE := fun ρ T k => fa ρ T fun x T1 => match x with | .bl c => if c = true then k (.bl true) T1 else fb ρ T1 k | _ => False
def dNotV (fa : dE) : dE := fun ρ T k => fa ρ T fun x T1 => match x with | .bl c => k (.bl (!c)) T1 | _ => False
theorem d_v1 {op} (ha : PEd X a fa) : PEd X (.BoolOp op [a] pos) fa := pe_one ha
theorem d_andV (ha : PEd X a fa) (hb : PEd X (.BoolOp .And (b :: rest) pos) fb) : PEd X (.BoolOp .And (a :: b :: rest) pos) (dAndV fa fb) := by
  refine pe_imp (pe_and ha hb) fun σ H Q h => ?_
  obtain ⟨ρ, T, t, F, k, w, h, f⟩ := h
  refine ⟨ρ, T, t, F, _, w, h, fun v H1 F1 x T1 w1 g1 r1 h1 => ?_⟩
  split at h1
  · rename_i c
    cases r1
    refine ⟨c, rfl, ?_⟩
    cases c with
    | true => exact ⟨ρ, T1, t, F1, k, w.grow g1 w1, h1, f.then g1⟩
    | false => exact (f.then g1).val w1 (.bl _) h1
  · exact h1.elim
theorem d_notV (ha : PEd X a fa) : PEd X (.UnaryOp .Not a pos) (dNotV fa) := by
  refine pe_imp (pe_not ha) fun σ H Q h => ?_
  obtain ⟨ρ, T, t, F, k, w, h, f⟩ := h
  refine ⟨ρ, T, t, F, _, w, h, fun v H1 F1 x T1 w1 g1 r1 h1 => ?_⟩
  split at h1
  · cases r1; exact ⟨_, rfl, (f.then g1).val w1 (.bl _) h1⟩
  · exact h1.elim
def dIf (t : dT) (fa fb : dE) : dE := fun ρ T k => t ρ T fun c T1 => if c = true then fa ρ T1 k else fb ρ T1 k
theorem d_if {c : Expr} {tc : dT} (hc : PTd X c tc) (ha : PEd X a fa) (hb : PEd X b fb) : PEd X (.IfExp c a b pos) (dIf tc fa fb) := by
  refine pe_imp (pe_ifExp hc ha hb) fun σ H Q h => ?_
  obtain ⟨ρ, T, t, F, k, w, h, f⟩ := h
  refine ⟨ρ, T, t, F, _, w, h, fun c H1 F1 T1 w1 g1 h1 => ?_⟩
  cases c with
  | true => exact ⟨ρ, T1, t, F1, k, w.grow g1 w1, h1, f.then g1⟩
  | false => exact ⟨ρ, T1, t, F1, k, w.grow g1 w1, h1, f.then g1⟩

/-! arguments, displays -/
def aNil : dA := fun _ T k => k [] T
def aCons (fe : dE) (fr : dA) : dA := fun ρ T k => fe ρ T fun d T1 => fr ρ T1 fun as T2 => k (.val d :: as) T2
def aTank (i : Nat) (fr : dA) : dA := fun ρ T k => (match ρ[i]? with | some (some .tank) => True | _ => False) ∧ fr ρ T fun as T2 => k (.tank :: as) T2
variable {es : List Expr} {fr : dA}
theorem a_nil : PAd X [] aNil := by
  refine pa_imp pa_nil fun σ H Q h => ?_
  obtain ⟨ρ, T, t, F, k, w, h, f⟩ := h
  exact f _ _ _ _ _ w.wt (Grow.refl _ _ _) .nil h
theorem a_cons {e : Expr} {fe : dE} (he : PEd X e fe) (hr : PAd X es fr) (hs : starEach (e :: es) X.env = (false, eval e X.env) :: starEach es X.env := by rfl) : PAd X (e :: es) (aCons fe fr) := by
  refine pa_imp (pa_cons he hr hs) fun σ H Q h => ?_
  obtain ⟨ρ, T, t, F, k, w, h, f⟩ := h
  refine ⟨ρ, T, t, F, _, w, h, fun v H1 F1 x T1 w1 g1 r1 h1 => ?_⟩
  refine ⟨ρ, T1, t, F1, _, w.grow g1 w1, h1, fun vs H2 F2 as T2 w2 g2 r2 h2 => ?_⟩
  exact f _ _ _ _ _ w2 (g1.trans g2) (.val (r1.mono g2.sub) r2) h2
theorem a_tank (i : Nat) {x : Str} {p : Pos} (hr : PAd X es fr) (hN : X.N[i]? = some x := by rfl) (hv : Vis X.env.scope x := by first | exact Or.inl rfl | exact Or.inr (Or.inl rfl) | exact Or.inr (Or.inr rfl))
    (hd : (x == ("__debug__" : Str)) = false := by decide) (hc : (x == ("__classdict__" : Str)) = false := by decide)
    (hs : starEach (.Name x p :: es) X.env = (false, eval (.Name x p) X.env) :: starEach es X.env := by rfl) : PAd X (.Name x p :: es) (aTank i fr) := by
  refine pa_imp (pa_cons (pe_var hN hv hd hc) hr hs) fun σ H Q h => ?_
  obtain ⟨ρ, T, t, F, k, w, ⟨h0, h⟩, f⟩ := h
  split at h0
  · rename_i e
    obtain ⟨v, e1, a, e2, e3⟩ := w.slot i _ e
    subst e3
    exact ⟨_, e1, ρ, T, t, F, _, w, h, fun vs H2 F2 as T2 w2 g2 r2 h2 => f _ _ _ _ _ w2 g2 (.tank e2 r2) h2⟩
  · exact h0.elim
def vals? : List SV → Option (List D)
  | [] => some []
  | .val d :: r => (vals? r).map (d :: ·)
  | _ :: _ => none
theorem ArgL.vals {K : PySem.W.Frag} {t : Option Addr} {F : Hp} : ∀ {as : List SV} {vs : List V} {ds : List D}, ArgL K t F as vs → vals? as = some ds → RepL K F ds vs
  | _, _, _, .nil, e => by cases e; exact .nil
  | _, _, ds, .val r q, e => by
    simp only [vals?, Option.map_eq_some_iff] at e
    obtain ⟨es, h1, rfl⟩ := e
    exact .cons r (q.vals h1)
  | _, _, _, .tank _ _, e => by simp [vals?] at e
def dTup (fr : dA) : dE := fun ρ T k => fr ρ T fun as T1 => match vals? as with | some ds => ds.length ≤ 1000000 ∧ k (.tup ds) T1 | none => False
def dLst (fr : dA) : dE := fun ρ T k => fr ρ T fun as T1 => match vals? as with | some ds => ds.length ≤ 1000000 ∧ k (.lst ds) T1 | none => False
theorem small_line {n : Nat} (h : n ≤ 1000000) : n ≤ sizeLine := by rw [sizeLine_eq]; omega
theorem d_tup {x1} (h : PAd X es fr) : PEd X (.Tuple es x1 pos) (dTup fr) := by
  refine pe_imp (pe_tup h) fun σ H Q h => ?_
  obtain ⟨ρ, T, t, F, k, w, h, f⟩ := h
  refine ⟨ρ, T, t, F, _, w, h, fun vs H1 F1 as T1 w1 g1 r1 h1 => ?_⟩
  split at h1
  · rename_i ds e
    have r := r1.vals e
    exact ⟨by rw [← r.len]; exact small_line h1.1, fun p hp => (f.then g1).tup w1 r hp h1.2⟩
  · exact h1.elim
theorem d_lst (h : PAd X es fr) : PEd X (.List es pos) (dLst fr) := by
  refine pe_imp (pe_lst h) fun σ H Q h => ?_
  obtain ⟨ρ, T, t, F, k, w, h, f⟩ := h
  refine ⟨ρ, T, t, F, _, w, h, fun vs H1 F1 as T1 w1 g1 r1 h1 => ?_⟩
  split at h1
  · rename_i ds e
    have r := r1.vals e
    exact ⟨by rw [← r.len]; exact small_line h1.1, fun p hp => (f.then g1).lst w1 r hp h1.2⟩
  · exact h1.elim

/-! items, slices -/
def oIx : Op2 := fun x y k => match x, y with
  | .tup xs, .int i => (match atI xs i with | some d => k d | none => False)
  | .lst xs, .int i => (match atI xs i with | some d => k d | none => False)
  | .scr xs, .int i => (match atI xs i with | some d => k d | none => False)
  | _, _ => False
theorem atI_rep {K : PySem.W.Frag} {F : Hp} {xs : List D} {vs : List V} {i : Int} {d : D} (r : RepL K F xs vs) (h : atI xs i = some d) : ∃ v, atI vs i = some v ∧ Rep K F d v := by
  unfold atI at h ⊢
  rw [← r.len]
  cases e : ixN xs.length i with
  | none => rw [e] at h; cases h
  | some j =>
    rw [e] at h
    exact r.get h
theorem oIx_ok {K : PySem.W.Frag} : OpS K (fun x y H Q => rIxL K x y H Q ∨ rIxT K x y H Q) oIx := by
  intro t F H T x y v w k Q wt r1 r2 q f
  unfold oIx at q
  split at q
  · split at q
    · rename_i d e
      obtain ⟨a, vs, rfl, h, r⟩ := rep_tup r1
      cases r2
      obtain ⟨v, e1, rv⟩ := atI_rep r e
      exact .inr ⟨a, vs, _, v, rfl, rfl, same_t wt.sub h, e1, f.val wt rv q⟩
    · exact q.elim
  · split at q
    · rename_i d e
      obtain ⟨a, vs, rfl, h, r⟩ := rep_lst r1
      cases r2
      obtain ⟨v, e1, rv⟩ := atI_rep r e
      exact .inl ⟨a, vs, _, v, rfl, rfl, .of (wt.sub _ _ h), e1, f.val wt rv q⟩
    · exact q.elim
  · split at q
    · rename_i d e
      obtain ⟨a, vs, rfl, h, r⟩ := rep_scr r1
      cases r2
      obtain ⟨v, e1, rv⟩ := atI_rep r e
      exact .inl ⟨a, vs, _, v, rfl, rfl, wt.sub.seq h, e1, f.val wt rv q⟩
    · exact q.elim
  · exact q.elim
end
end L2.G

namespace L2.G
open PySem PySem.Spec PyProof.Rows

/-! statements: F0, H0 the entry's heaps -/
structure Ws (K : PySem.W.Frag) (ρ : En) (T : Tk) (t : Option Addr) (σ : L2.St) (F0 H0 F H : Hp) : Prop where
  w : Wd K ρ T t σ F H
  g : Grow t F0 H0 F H
  fr : ∀ (i : Nat) xs l, ρ[i]? = some (some (.own xs)) → σ[i]? = some (some (.ref l)) → H0 l = none
theorem Ws.grow {K : PySem.W.Frag} {ρ : En} {T T' : Tk} {t : Option Addr} {σ : L2.St} {F0 H0 F H F' H' : Hp} (w : Ws K ρ T t σ F0 H0 F H) (g : Grow t F H F' H') (w' : Wt K T' t F' H') : Ws K ρ T' t σ F0 H0 F' H' :=
  ⟨w.w.grow g w', w.g.trans g, w.fr⟩
def FinS (K : PySem.W.Frag) (t : Option Addr) (F0 H0 F : Hp) (k : En → Tk → Prop) (n : L2.St → Hp → Prop) : Prop := ∀ ρ T σ F' H', Ws K ρ T t σ F0 H0 F' H' → Same F F' → k ρ T → n σ H'
def FinR (K : PySem.W.Frag) (t : Option Addr) (F0 H0 : Hp) (k : KD) (n : VK) : Prop := ∀ v H F d T, Wt K T t F H → Grow t F0 H0 F H → Rep K F d v → k d T → n v H
structure FinE (K : PySem.W.Frag) (t : Option Addr) (F0 H0 F : Hp) (k : dEnds) (E : Ends) : Prop where
  nx : FinS K t F0 H0 F k.nx E.nx
  rt : FinR K t F0 H0 k.rt E.rt
  bk : FinS K t F0 H0 F k.bk E.bk
  ct : FinS K t F0 H0 F k.ct E.ct
theorem FinS.to {K : PySem.W.Frag} {t : Option Addr} {F0 H0 F F1 : Hp} {k : En → Tk → Prop} {n : L2.St → Hp → Prop} (f : FinS K t F0 H0 F k n) (s : Same F F1) : FinS K t F0 H0 F1 k n := fun ρ T σ F' H' w e q => f ρ T σ F' H' w (s.trans e) q
theorem FinE.to {K : PySem.W.Frag} {t : Option Addr} {F0 H0 F F1 : Hp} {k : dEnds} {E : Ends} (f : FinE K t F0 H0 F k E) (s : Same F F1) : FinE K t F0 H0 F1 k E := ⟨f.nx.to s, f.rt, f.bk.to s, f.ct.to s⟩
def tDS (K : PySem.W.Frag) (f : dS) : TS := fun E σ H => ∃ ρ T t F0 H0 F k, Ws K ρ T t σ F0 H0 F H ∧ f k ρ T ∧ FinE K t F0 H0 F k E
abbrev PSd (X : Cx) (st : Stmt) (f : dS) : Prop := PS X st (tDS X.K f)
abbrev PSsd (X : Cx) (st : List Stmt) (f : dS) : Prop := PSs X st (tDS X.K f)

section
variable {X : Cx} {st : Stmt} {rest : List Stmt} {f g : dS} {e : Expr} {fe : dE} {pos : Pos}
def sSeq (f g : dS) : dS := fun k ρ T => f { k with nx := g k } ρ T
theorem ss_cons (h1 : PSd X st f) (h2 : PSsd X rest g) : PSsd X (st :: rest) (sSeq f g) := by
  refine pss_imp (pss_cons h1 h2) fun E σ H h => ?_
  obtain ⟨ρ, T, t, F0, H0, F, k, w, h, fe⟩ := h
  exact ⟨ρ, T, t, F0, H0, F, _, w, h, ⟨fun ρ' T' σ' F' H' w' s' h' => ⟨ρ', T', t, F0, H0, F', k, w', h', fe.to s'⟩, fe.rt, fe.bk, fe.ct⟩⟩
theorem ss_one (h1 : PSd X st f) : PSsd X [st] f := pss_one h1
theorem ss_nil : PSsd X [] (fun k ρ T => k.nx ρ T) := by
  refine pss_imp pss_nil fun E σ H h => ?_
  obtain ⟨ρ, T, t, F0, H0, F, k, w, h, fe⟩ := h
  exact fe.nx _ _ _ _ _ w (Same.refl _) h
theorem s_break : PSd X (.Break pos) (fun k ρ T => k.bk ρ T) := by
  refine ps_imp ps_break fun E σ H h => ?_
  obtain ⟨ρ, T, t, F0, H0, F, k, w, h, fe⟩ := h
  exact fe.bk _ _ _ _ _ w (Same.refl _) h
def sRet (fe : dE) : dS := fun k ρ T => fe ρ T k.rt
theorem s_ret (he : PEd X e fe) : PSd X (.Return (some e) pos) (sRet fe) := by
  refine ps_imp (ps_ret he) fun E σ H h => ?_
  obtain ⟨ρ, T, t, F0, H0, F, k, w, h, fe⟩ := h
  exact ⟨ρ, T, t, F, _, w.w, h, fun v H1 F1 d T1 w1 g1 r1 h1 => fe.rt _ _ _ _ _ w1 (w.g.trans g1) r1 h1⟩
def sExpr (fe : dE) : dS := fun k ρ T => fe ρ T fun _ T1 => k.nx ρ T1
theorem s_expr (he : PEd X e fe) (hs : swapsWith e none pos.line X.env = pure false := by rfl) : PSd X (.Expr e pos) (sExpr fe) := by
  refine ps_imp (ps_expr he hs) fun E σ H h => ?_
  obtain ⟨ρ, T, t, F0, H0, F, k, w, h, fe⟩ := h
  exact ⟨ρ, T, t, F, _, w.w, h, fun v H1 F1 d T1 w1 g1 r1 h1 => fe.nx _ _ _ _ _ (w.grow g1 w1) g1.sub h1⟩
def sIf (c : dT) (f g : dS) : dS := fun k ρ T => c ρ T fun b T1 => if b = true then f k ρ T1 else g k ρ T1
theorem s_if {c : Expr} {tc : dT} {a b : List Stmt} (hc : PTd X c tc) (ha : PSsd X a f) (hb : PSsd X b g) : PSd X (.If c a b pos) (sIf tc f g) := by
  refine ps_imp (ps_if hc ha hb) fun E σ H h => ?_
  obtain ⟨ρ, T, t, F0, H0, F, k, w, h, fe⟩ := h
  refine ⟨ρ, T, t, F, _, w.w, h, fun b H1 F1 T1 w1 g1 h1 => ?_⟩
  cases b with
  | true => exact ⟨ρ, T1, t, F0, H0, F1, k, w.grow g1 w1, h1, fe.to g1.sub⟩
  | false => exact ⟨ρ, T1, t, F0, H0, F1, k, w.grow g1 w1, h1, fe.to g1.sub⟩
theorem s_never : PSd X st (fun _ _ _ => False) := by
  refine ps_imp ps_never fun E σ H h => ?_
  obtain ⟨ρ, T, t, F0, H0, F, k, w, h, fe⟩ := h
  exact h.elim
/-! storing a value in a slot -/
theorem getSet {α : Type} {l : List α} {i j : Nat} {a : α} {b : α} (h : (l.set i a)[j]? = some b) : (i = j ∧ i < l.length ∧ b = a) ∨ (i ≠ j ∧ l[j]? = some b) := by
  by_cases e : i = j
  · subst e
    by_cases hl : i < l.length
    · rw [List.getElem?_set_self hl] at h; cases h; exact .inl ⟨rfl, hl, rfl⟩
    · rw [List.getElem?_eq_none (by simpa using hl)] at h; cases h
  · rw [List.getElem?_set_ne e] at h; exact .inr ⟨e, h⟩
theorem Wd.put {K : PySem.W.Frag} {ρ : En} {T : Tk} {t : Option Addr} {σ : L2.St} {F H : Hp} (w : Wd K ρ T t σ F H) {i : Nat} {d : D} {v : V} (r : Rep K F d v) : Wd K (ρ.set i (some (.val d))) T t (σ.set i (some v)) F H := by
  refine ⟨w.wt, by simpa using w.len, fun j s e => ?_, fun j j' xs ys l e1 e2 e3 e4 => ?_⟩
  · rcases getSet e with ⟨rfl, hl, e'⟩ | ⟨ne, e'⟩
    · cases e'
      exact ⟨v, by rw [List.getElem?_set_self (by rw [← w.len]; exact hl)], r⟩
    · obtain ⟨u, h1, h2⟩ := w.slot j s e'
      exact ⟨u, by rw [List.getElem?_set_ne ne]; exact h1, h2⟩
  · rcases getSet e1 with ⟨_, _, z⟩ | ⟨n1, e1⟩
    · cases z
    · rcases getSet e2 with ⟨_, _, z⟩ | ⟨n2, e2⟩
      · cases z
      · rw [List.getElem?_set_ne n1] at e3
        rw [List.getElem?_set_ne n2] at e4
        exact w.apart j j' xs ys l e1 e2 e3 e4
theorem Ws.put {K : PySem.W.Frag} {ρ : En} {T : Tk} {t : Option Addr} {σ : L2.St} {F0 H0 F H : Hp} (w : Ws K ρ T t σ F0 H0 F H) {i : Nat} {d : D} {v : V} (r : Rep K F d v) : Ws K (ρ.set i (some (.val d))) T t (σ.set i (some v)) F0 H0 F H := by
  refine ⟨w.w.put r, w.g, fun j xs l e1 e2 => ?_⟩
  rcases getSet e1 with ⟨_, _, z⟩ | ⟨ne, e1⟩
  · cases z
  · rw [List.getElem?_set_ne ne] at e2
    exact w.fr j xs l e1 e2

/-! targets -/
abbrev dG := D → En → Tk → (En → Tk → Prop) → Prop
def tDG (K : PySem.W.Frag) (g : dG) : TG := fun v σ H Q => ∃ ρ T t F0 H0 F d k, Ws K ρ T t σ F0 H0 F H ∧ Rep K F d v ∧ g d ρ T k ∧ FinS K t F0 H0 F k Q
abbrev PGd (X : Cx) (tg : Expr) (g : dG) : Prop := PG X tg (tDG X.K g)
abbrev dGs := List D → En → Tk → (En → Tk → Prop) → Prop
def tDGs (K : PySem.W.Frag) (g : dGs) : TGs := fun vs σ H Q => ∃ ρ T t F0 H0 F ds k, Ws K ρ T t σ F0 H0 F H ∧ RepL K F ds vs ∧ g ds ρ T k ∧ FinS K t F0 H0 F k Q
theorem pg_imp {tg : Expr} {t u : TG} (h : PG X tg t) (i : ∀ v σ H Q, u v σ H Q → t v σ H Q) : PG X tg u := ⟨fun pins s σ H v u Q I r q => h.run pins s σ H v u Q I r (i _ _ _ _ q)⟩
theorem pgs_imp {tg : List Expr} {t u : TGs} (h : PGs X tg t) (i : ∀ v σ H Q, u v σ H Q → t v σ H Q) : PGs X tg u := ⟨fun pins s σ H v u Q I r q => h.run pins s σ H v u Q I r (i _ _ _ _ q)⟩
def gN (i : Nat) : dG := fun d ρ T k => k (ρ.set i (some (.val d))) T
theorem g_name (i : Nat) {x : Str} (hN : X.N.Nodup) (hi : X.N[i]? = some x := by rfl) (hx : Loc X.env.scope x := by first | exact Or.inl rfl | exact Or.inr rfl) (hf : X.fn x = true ∨ X.env.scope.names.lookup x = some .local := by first | exact .inl rfl | exact .inr rfl | assumption) : PGd X (.Name x pos) (gN i) := by
  refine pg_imp (pg_name hN hi hx hf) fun v σ H Q h => ?_
  obtain ⟨ρ, T, t, F0, H0, F, d, k, w, r, h, f⟩ := h
  exact f _ _ _ _ _ (w.put r) (Same.refl _) h
def gsNil : dGs := fun ds ρ T k => ds = [] ∧ k ρ T
def gsCons (g : dG) (gs : dGs) : dGs := fun ds ρ T k => match ds with | d :: r => g d ρ T fun ρ' T' => gs r ρ' T' k | [] => False
theorem gs_nil : PGs X [] (tDGs X.K gsNil) := by
  refine pgs_imp pgs_nil fun vs σ H Q h => ?_
  obtain ⟨ρ, T, t, F0, H0, F, ds, k, w, r, ⟨e, h⟩, f⟩ := h
  subst e
  cases r
  exact ⟨rfl, f _ _ _ _ _ w (Same.refl _) h⟩
theorem gs_cons {tg : Expr} {tgs : List Expr} {g : dG} {gs : dGs} (h1 : PGd X tg g) (h2 : PGs X tgs (tDGs X.K gs)) (hs : (assignEach (tg :: tgs) X.env).map (·.2) = assign tg X.env :: (assignEach tgs X.env).map (·.2) := by rfl) : PGs X (tg :: tgs) (tDGs X.K (gsCons g gs)) := by
  refine pgs_imp (pgs_cons h1 h2 hs) fun vs σ H Q h => ?_
  obtain ⟨ρ, T, t, F0, H0, F, ds, k, w, r, h, f⟩ := h
  cases r with
  | nil => exact h.elim
  | cons r1 rr => exact ⟨_, _, rfl, ρ, T, t, F0, H0, F, _, _, w, r1, h, fun ρ' T' σ' F' H' w' s' h' => ⟨ρ', T', t, F0, H0, F', _, k, w', rr.mono s', h', f.to s'⟩⟩
def gT (n : Nat) (gs : dGs) : dG := fun d ρ T k => match d with | .tup ds => ds.length = n ∧ gs ds ρ T k | _ => False
def sAsg (fe : dE) (g : dG) : dS := fun k ρ T => fe ρ T fun d T1 => g d ρ T1 k.nx
theorem asg_ok {K : PySem.W.Frag} {g : dG} {σ : L2.St} {H : Hp} {E : Ends} (h : tDS K (sAsg fe g) E σ H) : tD K fe σ H fun v H1 => tDG K g v σ H1 E.nx := by
  obtain ⟨ρ, T, t, F0, H0, F, k, w, h, fe⟩ := h
  refine ⟨ρ, T, t, F, _, w.w, h, fun v H1 F1 d T1 w1 g1 r1 h1 => ?_⟩
  exact ⟨ρ, T1, t, F0, H0, F1, d, _, w.grow g1 w1, r1, h1, fe.nx.to g1.sub⟩
theorem s_asg {tg : Expr} {g : dG} (he : PEd X e fe) (hg : PGd X tg g) (hs : swapsWithSole [tg] e pos.line X.env = pure false := by rfl) (hw : swappedStores [tg] e X.env = pure none := by rfl)
    (h1 : (assignEach [tg] X.env).map (·.2) = [assign tg X.env] := by rfl) : PSd X (.Assign [tg] e pos) (sAsg fe g) :=
  ps_imp (ps_asg he hg hs hw h1) fun _ _ _ h => asg_ok h
theorem s_set (i : Nat) {x : Str} {pos' : Pos} (hN : X.N.Nodup) (he : PEd X e fe) (hi : X.N[i]? = some x := by rfl) (hx : Loc X.env.scope x := by first | exact Or.inl rfl | exact Or.inr rfl) (hs : swapsWith e (some (.Name x pos')) pos.line X.env = pure false := by rfl)
    (hf : X.fn x = true ∨ X.env.scope.names.lookup x = some .local := by first | exact .inl rfl | exact .inr rfl | assumption) : PSd X (.Assign [.Name x pos'] e pos) (sAsg fe (gN i)) := by
  refine ps_imp (ps_set hN hi hx he hs hf) fun E σ H h => ?_
  obtain ⟨ρ, T, t, F0, H0, F, k, w, h, fe⟩ := h
  exact ⟨ρ, T, t, F, _, w.w, h, fun v H1 F1 d T1 w1 g1 r1 h1 => fe.nx _ _ _ _ _ ((w.grow g1 w1).put r1) g1.sub h1⟩
/-- a, b = x, y -/
def sPar (i j : Nat) (fr : dA) : dS := fun k ρ T => fr ρ T fun as T1 => match as with | [.val d, .val e] => k.nx ((ρ.set i (some (.val d))).set j (some (.val e))) T1 | _ => False
theorem s_par (i j : Nat) {x y : Str} {a b : Expr} {fr : dA} {px py pt : Pos} {kt k2 pt2} (hc : X.calm = true) (hN : X.N.Nodup) (ha : PAd X [a, b] fr)
    (hi : X.N[i]? = some x := by rfl) (hj : X.N[j]? = some y := by rfl) (hij : i ≠ j := by decide) (hx : X.env.scope.names.lookup x = some .local := by rfl) (hy : X.env.scope.names.lookup y = some .local := by rfl)
    (hw : swappedStores [.Tuple [.Name x px, .Name y py] kt pt] (.Tuple [a, b] k2 pt2) X.env = pure (some [x, y]) := by rfl)
    (hs : swapsWithSole [.Tuple [.Name x px, .Name y py] kt pt] (.Tuple [a, b] k2 pt2) pos.line X.env = pure false := by rfl) : PSd X (.Assign [.Tuple [.Name x px, .Name y py] kt pt] (.Tuple [a, b] k2 pt2) pos) (sPar i j fr) := by
  refine ps_imp (ps_par hc hN hi hj hij hx hy ha hw hs) fun E σ H h => ?_
  obtain ⟨ρ, T, t, F0, H0, F, k, w, h, fe⟩ := h
  refine ⟨ρ, T, t, F, _, w.w, h, fun vs H1 F1 as T1 w1 g1 r1 h1 => ?_⟩
  split at h1
  · cases r1 with
    | val r1 rr =>
      cases rr with
      | val r2 rr =>
        cases rr
        exact ⟨_, _, rfl, fe.nx _ _ _ _ _ (((w.grow g1 w1).put r1).put r2) g1.sub h1⟩
  · exact h1.elim

/-! loops -/
def sWhile (c : dT) (f : dS) : dS := fun k ρ T => ∃ W : Nat → En → Tk → Prop, (∃ m, W m ρ T) ∧ ∀ m ρ T, W m ρ T → c ρ T fun b T1 => if b = true then
  f { nx := fun ρ' T' => ∃ m', m' < m ∧ W m' ρ' T', rt := k.rt, bk := k.nx, ct := fun ρ' T' => ∃ m', m' < m ∧ W m' ρ' T' } ρ T1 else k.nx ρ T1
theorem s_while {c : Expr} {tc : dT} {body : List Stmt} (hp : PassesOwn (model X.prog X.w) X.A X.env X.xe) (hc : PTd X c tc) (hb : PSsd X body f) : PSd X (.While c body [] pos) (sWhile tc f) := by
  refine ps_imp (ps_while hp hc hb) fun E σ H h => ?_
  obtain ⟨ρ, T, t, F0, H0, F, k, w, ⟨W, ⟨m0, w0⟩, turn⟩, fe⟩ := h
  refine ⟨fun m σ H => ∃ ρ T F', Ws X.K ρ T t σ F0 H0 F' H ∧ Same F F' ∧ W m ρ T, ⟨m0, ρ, T, F, w, Same.refl _, w0⟩, fun m σ H h => ?_⟩
  obtain ⟨ρ, T, F', w, sF, hW⟩ := h
  refine ⟨ρ, T, t, F', _, w.w, turn m ρ T hW, fun b H1 F1 T1 w1 g1 h1 => ?_⟩
  have s1 : Same F F1 := sF.trans g1.sub
  cases b with
  | false => exact fe.nx _ _ _ _ _ (w.grow g1 w1) s1 h1
  | true =>
    rw [if_pos rfl] at h1
    refine iteT ⟨fun σ' H' => ∃ m', m' < m ∧ ∃ ρ T F', Ws X.K ρ T t σ' F0 H0 F' H' ∧ Same F F' ∧ W m' ρ T, fun σ' H' h => h, ρ, T1, t, F0, H0, F1, _, w.grow g1 w1, h1, ?_⟩
    exact ⟨fun ρ' T' σ' F' H' w' s' ⟨m', lt, hw'⟩ => ⟨m', lt, ρ', T', F', w', s1.trans s', hw'⟩, fe.rt, fe.nx.to s1, fun ρ' T' σ' F' H' w' s' ⟨m', lt, hw'⟩ => ⟨m', lt, ρ', T', F', w', s1.trans s', hw'⟩⟩
/-- over some items -/
def forL (g : dG) (f : dS) (k : dEnds) : List D → En → Tk → Prop
  | [], ρ, T => k.nx ρ T
  | d :: r, ρ, T => g d ρ T fun ρ1 T1 => f { nx := forL g f k r, rt := k.rt, bk := k.nx, ct := forL g f k r } ρ1 T1
def D.items : D → Option (List D) | .tup xs => some xs | .lst xs => some xs | _ => none
/-- range(lo, lo + n) -/
def intsL (lo : Int) : Nat → List D
  | 0 => [] | n + 1 => .int lo :: intsL (lo + 1) n
theorem intsL_len : ∀ (n : Nat) (lo : Int), (intsL lo n).length = n
  | 0, _ => rfl
  | n + 1, lo => by simp [intsL, intsL_len n]
theorem intsL_get : ∀ (n : Nat) (lo : Int) (i : Nat), i < n → (intsL lo n)[i]? = some (.int (lo + i))
  | 0, _, _, h => absurd h (Nat.not_lt_zero _)
  | n + 1, lo, 0, _ => by simp [intsL]
  | n + 1, lo, i + 1, h => by
    show (intsL (lo + 1) n)[i]? = _
    rw [intsL_get n (lo + 1) i (by omega)]
    congr 2
    omega
end
end L2.G

namespace L2.G
open PySem PySem.Spec PyProof.Rows

/-! a def's promise where no text is being written (for repr) -/
structure GFn (P : Program) (w : World) (K : PySem.W.Frag) (mg : Str → Option Value) (base : Heap) (CX : CXT) (n : Nat) (f : Addr) (fd : FuncData) (ps : List Str) (sp : Sp) : Prop where
  len : ∀ vs H Q E, sp vs H Q E → vs.length = ps.length
  go : ∀ (A : Around) (fs : List Env) (s : Shared) (H : Hp) (args : Args) (us : List Value) (vs : List V) (Q : VK) (E : XK),
    Room n A ∧ A.guards = some [] → Env0 P w K mg base A fs s H → BindsTo s fd args (ps.zip us) → Vals vs us → sp vs H Q E → codeAny (model P w) A (.call (.ref f) args) (CR CX fs P w H s Q E) s

section
variable {P : Program} {w : World} {K : PySem.W.Frag} {mg : Str → Option Value} {base : Heap} {CX : CXT}
theorem GFn.mono {m n : Nat} {f : Addr} {fd : FuncData} {ps : List Str} {sp : Sp} (G : GFn P w K mg base CX m f fd ps sp) (h : m ≤ n) : GFn P w K mg base CX n f fd ps sp :=
  ⟨G.len, fun A fs s H args us vs Q E r => G.go A fs s H args us vs Q E ⟨r.1.mono h, r.2⟩⟩
theorem GFn.imp {n : Nat} {f : Addr} {fd : FuncData} {ps : List Str} {sp sp' : Sp} (G : GFn P w K mg base CX n f fd ps sp) (h : ∀ vs H Q E, sp' vs H Q E → sp vs H Q E) : GFn P w K mg base CX n f fd ps sp' :=
  ⟨fun vs H Q E q => G.len vs H Q E (h _ _ _ _ q), fun A fs s H args us vs Q E r e b v q => G.go A fs s H args us vs Q E r e b v (h _ _ _ _ q)⟩
/-- by the body -/
theorem gfn_body {n : Nat} {f : Addr} {name qual : Str} {params : Arguments} {body : List Stmt} {scope : Scope} {dV kV doc pm cdv ct oc : Value} {an od : Option Addr} {osl : Array (Option Value)} {N ps : List Str} {sp : Sp}
    (lk : K.lookup f = some ⟨oc, od, .func (PySem.W.fnOf name qual params body scope dV kV doc pm an cdv ct), osl⟩) (hcd : PySem.W.codeIn K cdv qual = true) (S : FnScope N ps scope) (len : ∀ vs H Q E, sp vs H Q E → vs.length = ps.length)
    (hb : ∀ (A : Around) (fs : List Env) (s : Shared) (H : Hp) (vs : List V) (Q : VK) (E : XK), Room n (A.deeper (envOfC qual scope s.heap.objs.size f cdv)) → A.guards = some [] → sp vs H Q E →
      ∃ t, PSs (cxOf CX P w K mg base N qual scope f cdv A fs s H E) body t ∧ t { nx := fun _ H' => Q .non H', rt := Q } (start N vs) H) :
    GFn P w K mg base CX (n + 1) f (PySem.W.fnOf name qual params body scope dV kV doc pm an cdv ct) ps sp := by
  constructor
  · exact len
  intro A fs s H args us vs Q E room e0 bd r hsp
  obtain ⟨hr, hgd⟩ := room
  have hl := len _ _ _ _ hsp
  have up : ∀ b o, base.get? b = some o → s.heap.get? b = some o := fun b o e => (e0.bs b o e).1
  have KX : K.In s.heap := e0.mod.kin.keeps up
  have hk : ∀ y ∈ ps.zip us, scope.names.lookup y.1 = some .local ∨ (scope.names.lookup y.1 = some .cell ∧ ((cellsFrom (s.heap.objs.size + 1) scope.names []).lookup y.1).isSome = true) := by
    rintro ⟨m, v⟩ hy
    cases S.par m (List.of_mem_zip hy).1 with
    | inl q => exact .inl q
    | inr q => exact .inr ⟨q, PySem.W.cellsFrom_some _ _ _ (.inl q)⟩
  apply codeAny_call_function hr.depth (KX _ _ lk) rfl S.co S.gen rfl (PySem.W.codeRec_of KX hcd)
  apply bd
  apply wpAny_newFunctionEnv_cells S.kind hk
  intro env he s1 x
  subst he
  constructor
  · exact (e0.mod.nolimit.keeps up).keeps x.toInCall.keep
  apply codeAny_func
  obtain ⟨t, ht, hq⟩ := hb A fs s H vs Q E (hr.deeper _) hgd hsp
  have I := inv_start (CX := CX) (E := E) (f := f) (cd := cdv) (qual := qual) S hr.hd e0 hl r x
  have last : ∀ {σ' : L2.St} {H' : Hp} {v : V} {u : Value} {s' : Shared}, Inv (cxOf CX P w K mg base N qual scope f cdv A fs s H E) [] σ' H' s' → RelV v u → Q v H' → CE fs P w H s Q u s' :=
    fun {_ H' v u _} J rv q => ⟨v, H', J.os, J.bare, J.base, J.hok, rv, q⟩
  apply wpAny_mono (ht.run [] s1 (start N vs) H _ I hq)
  · intro fl s' hs
    cases fl with
    | next => obtain ⟨_, _, J, q⟩ := hs; exact last (v := V.non) (u := Value.none) J rfl q
    | brk => obtain ⟨_, _, _, q⟩ := hs; exact q.elim
    | cont => obtain ⟨_, _, _, q⟩ := hs; exact q.elim
    | ret u => obtain ⟨v, _, _, J, rv, q⟩ := hs; exact last J rv q
  · exact fun e s' hs => hs
end

section
variable {X : Cx} {CX : CXT} {n : Nat} {f : Addr} {fd : FuncData} {ps ks : List Str} {sp : Sp} {E : XK} {x : Str} {p pos : Pos} {e : Expr} {es : List Expr} {kws : List Keyword} {t tk : TA} {g : List Value → List Value → List Value} {gV : List V → List V → List V}
/-- the call, however the arguments are bound -/
theorem g_run (G : GFn X.prog X.w X.K X.mg X.base CX n f fd ps sp) (hr : Room n X.A) (hgd : X.A.guards = some []) (hx : Passes CX X E) {pins : List (Addr × Obj)} {σ : L2.St} {H : Hp} {s : Shared} {Q : VK} {args : Args} {us : List Value} {vs : List V}
    (I : Inv X pins σ H s) (r : Vals vs us) (b : BindsTo s fd args (ps.zip us)) (h : sp vs H Q E) : wpAny (model X.prog X.w) X.A (call (.ref f) args.pos args.kw) (EP X pins σ Q) X.xe s := by
  apply wpAny_call
  apply codeAny_mono (G.go X.A X.stack s H args us vs Q E ⟨hr, hgd⟩ I.env0 b r h)
  intro r s' hq
  match r, hq with
  | .error e, hq => exact hx pins σ H s e s' I hq
  | .ok (.ret u), hq => exact I.after hq
theorem g_call (G : GFn X.prog X.w X.K X.mg X.base CX n f fd ps sp) (hr : Room n X.A) (hgd : X.A.guards = some []) (hg : Gl X x) (hm : X.mg x = some (.ref f)) (hk : PySem.W.keepIn X.K (.ref f) = true) (hb : Binds X.K fd ps []) (hx : Passes CX X E)
    (ha : PA X (e :: es) t) (hd : (x == ("__debug__" : Str)) = false := by decide) (he : starEach (e :: es) X.env = (false, eval e X.env) :: starEach es X.env := by rfl) (hp : (backTo pos (starEach es X.env)).any (·.1) = false := by rfl) :
    PE X (.Call (.Name x p) (e :: es) [] pos) (tCall sp [] E t) := by
  constructor
  intro pins s σ H Q I h
  apply wpAny_Call_Name_kw
  apply ld_glob I hg hm _ hd
  apply PySem.W.callWith_K (h₀ := X.base) I.ok.mod.kin hk _ he hp
  apply thn (ha.run pos pins s σ H _ I h)
  rintro us s1 ⟨vs, H1, I1, r, q⟩
  refine ⟨I1.kIn, ?_⟩
  have q : sp (vs ++ []) H1 Q E := q
  rw [List.append_nil] at q
  have hl : us.length = ps.length := by rw [← r.length]; exact G.len _ _ _ _ q
  have b := hb s1 us I1.kIn (by rw [List.append_nil]; exact hl)
  rw [List.append_nil] at b
  exact g_run G hr hgd hx (args := ⟨us, []⟩) I1 r b q
/-- all arguments by name -/
theorem g_callK (G : GFn X.prog X.w X.K X.mg X.base CX n f fd ps sp) (hr : Room n X.A) (hgd : X.A.guards = some []) (hg : Gl X x) (hm : X.mg x = some (.ref f)) (hk : PySem.W.keepIn X.K (.ref f) = true) (hx : Passes CX X E)
    (hb : ∀ (s : Shared) (ws : List Value), X.K.In s.heap → ws.length = ps.length → BindsTo s fd ⟨[], ks.zip ws⟩ (ps.zip ws)) (hkw : PK X kws tk) (hd : (x == ("__debug__" : Str)) = false := by decide)
    (hall : (backToKw pos (keywordEach kws X.env)).all (·.1.isSome) = true := by rfl) (hks : (backToKw pos (keywordEach kws X.env)).filterMap (·.1) = ks := by rfl)
    (hp : ((backTo pos (starEach [] X.env)).any (·.1) || (backToKw pos (keywordEach kws X.env)).any (·.1.isNone)) = false := by rfl) : PE X (.Call (.Name x p) [] kws pos) (tCall sp [] E tk) := by
  constructor
  intro pins s σ H Q I h
  apply wpAny_Call_Name_kw
  apply ld_glob I hg hm _ hd
  apply PySem.W.callWith_KW0 (h₀ := X.base) I.ok.mod.kin hk hall _ hp
  apply thn (hkw.run pos pins s σ H _ I h)
  rintro ws s1 ⟨zs, H1, I1, r, q⟩
  refine ⟨I1.kIn, ?_⟩
  rw [hks]
  have q : sp (zs ++ []) H1 Q E := q
  rw [List.append_nil] at q
  have hl : ws.length = ps.length := by rw [← r.length]; exact G.len _ _ _ _ q
  exact g_run G hr hgd hx (args := ⟨[], ks.zip ws⟩) I1 r (hb s1 ws I1.kIn hl) q
end

/-! defs over data -/
abbrev Sem := List SV → Tk → KD → Prop
def spD (K : PySem.W.Frag) (n : Nat) (sem : Sem) : Sp := fun vs H Q _ => vs.length = n ∧ ∃ F t T as k, ArgL K t F as vs ∧ Wt K T t F H ∧ sem as T k ∧ Fin K t F H k Q
/-- the def x stands in the module and does sem -/
def Ok (P : Program) (w : World) (K : PySem.W.Frag) (mg : Str → Option Value) (base : Heap) (n : Nat) (x : Str) (ps : List Str) (sem : Sem) : Prop :=
  ∃ f fd, mg x = some (.ref f) ∧ PySem.W.keepIn K (.ref f) = true ∧ Binds K fd ps [] ∧ (∀ (s : Shared) (ws : List Value), K.In s.heap → ws.length = ps.length → BindsTo s fd ⟨[], ps.zip ws⟩ (ps.zip ws)) ∧ GFn P w K mg base CX0 n f fd ps (spD K ps.length sem) ∧ ∃ oc od osl, K.lookup f = some ⟨oc, od, .func fd, osl⟩
def Df (K : PySem.W.Frag) (mg : Str → Option Value) (x : Str) (st : Stmt) : Prop := ∃ f fd, Fun K x x st f fd ∧ mg x = some (.ref f)
theorem Ok.mono {P : Program} {w : World} {K : PySem.W.Frag} {mg : Str → Option Value} {base : Heap} {m n : Nat} {x : Str} {ps : List Str} {sem : Sem} (h : Ok P w K mg base m x ps sem) (l : m ≤ n) : Ok P w K mg base n x ps sem :=
  let ⟨f, fd, h1, h2, h3, h4, h5, h6⟩ := h; ⟨f, fd, h1, h2, h3, h4, h5.mono l, h6⟩
/-- a weaker reading -/
theorem Ok.imp {P : Program} {w : World} {K : PySem.W.Frag} {mg : Str → Option Value} {base : Heap} {n : Nat} {x : Str} {ps : List Str} {sem sem' : Sem} (h : Ok P w K mg base n x ps sem) (i : ∀ as T k, sem' as T k → sem as T k) : Ok P w K mg base n x ps sem' :=
  let ⟨f, fd, h1, h2, h3, h4, h5, h6⟩ := h; ⟨f, fd, h1, h2, h3, h4, h5.imp (fun vs H Q E ⟨q1, F, t, T, as, k, a, b, c, d⟩ => ⟨q1, F, t, T, as, k, a, b, i _ _ _ c, d⟩), h6⟩
abbrev CxD (P : Program) (w : World) (K : PySem.W.Frag) (mg : Str → Option Value) (base : Heap) (N : List Str) (x : Str) (st : Stmt) (f : Addr) (cdv : Value) (A : Around) (fs : List Env) (s : Shared) (H : Hp) (E : XK) : Cx :=
  (cxOf CX0 P w K mg base N x (defScope st) f cdv A fs s H E).nox
/-- what a body does, from the arguments -/
def start' (N : List Str) (as : List SV) : En := as.map some ++ List.replicate (N.length - as.length) none
def semOf (N : List Str) (b : dS) : Sem := fun as T k => b { nx := fun _ T => k .non T, rt := k, bk := fun _ _ => False, ct := fun _ _ => False } (start' N as) T
theorem argGet {K : PySem.W.Frag} {t : Option Addr} {F H : Hp} : ∀ {as : List SV} {vs : List V} (r : ArgL K t F as vs) (i : Nat) s, as[i]? = some s → (∃ v, vs[i]? = some v ∧ SlotR K t F H s v) ∧ ∀ xs, s ≠ .own xs
  | _, _, .nil, _, _, e => by simp at e
  | _, _, .val r q, 0, s, e => by simp at e; subst e; exact ⟨⟨_, rfl, r⟩, fun _ z => nomatch z⟩
  | _, _, .tank r q, 0, s, e => by simp at e; subst e; exact ⟨⟨_, rfl, _, r, rfl⟩, fun _ z => nomatch z⟩
  | _, _, .val r q, i + 1, s, e => argGet q i s (by simpa using e)
  | _, _, .tank r q, i + 1, s, e => argGet q i s (by simpa using e)
theorem startGet {N : List Str} {as : List SV} {i : Nat} {s : SV} (h : (start' N as)[i]? = some (some s)) : as[i]? = some s := by
  unfold start' at h
  by_cases hi : i < as.length
  · rw [List.getElem?_append_left (by simpa using hi), List.getElem?_map] at h
    cases e : as[i]? with
    | none => rw [e] at h; cases h
    | some a => rw [e] at h; cases h; rfl
  · rw [List.getElem?_append_right (by simpa using hi), List.getElem?_replicate] at h
    split at h <;> cases h
theorem wd_start {K : PySem.W.Frag} {N : List Str} {t : Option Addr} {F H : Hp} {T : Tk} {as : List SV} {vs : List V} (r : ArgL K t F as vs) (w : Wt K T t F H) : Wd K (start' N as) T t (start N vs) F H := by
  refine ⟨w, by simp [start', start, r.len], fun i s e => ?_, fun i j xs ys l e1 _ _ _ => ?_⟩
  · have e' := startGet e
    obtain ⟨⟨v, h1, h2⟩, _⟩ := argGet (H := H) r i s e'
    refine ⟨v, ?_, h2⟩
    have hi := (List.getElem?_eq_some_iff.mp h1).1
    unfold start
    rw [List.getElem?_append_left (by simpa using hi), List.getElem?_map, h1]
    rfl
  · exact absurd rfl ((argGet (H := H) r i _ (startGet e1)).2 xs)
theorem ok_def {P : Program} {w : World} {K : PySem.W.Frag} {mg : Str → Option Value} {base : Heap} {n : Nat} {x : Str} {st : Stmt} {N ps : List Str} {b : dS} (h : Df K mg x st) (S : FnScope N ps (defScope st))
    (hb1 : ∀ (kV doc pm : Value) (an : Option Addr) (cdv ct : Value) (us : List Value), us.length = ps.length → bindArgs (PySem.W.fnOf x x (defArgs st) (defBody st) (defScope st) .none kV doc pm an cdv ct) ⟨us, []⟩ = pure (ps.zip us))
    (hb2 : ∀ (kV doc pm : Value) (an : Option Addr) (cdv ct : Value) (us : List Value), us.length = ps.length → bindArgs (PySem.W.fnOf x x (defArgs st) (defBody st) (defScope st) .none kV doc pm an cdv ct) ⟨[], ps.zip us⟩ = pure (ps.zip us))
    (body : ∀ (f : Addr) (cdv : Value) (A : Around) (fs : List Env) (s : Shared) (H : Hp) (E : XK), Room n (A.deeper (envOfC x (defScope st) s.heap.objs.size f cdv)) → A.guards = some [] → PSsd (CxD P w K mg base N x st f cdv A fs s H E) (defBody st) b) :
    Ok P w K mg base (n + 1) x ps (semOf N b) := by
  obtain ⟨f, fd, Fn, hm⟩ := h
  refine ⟨f, fd, hm, Fn.kp, Fn.binds hb1, ?_, ?_, by obtain ⟨oc, od, kV, doc, pm, an, cdv, ct, osl, _, lk, _⟩ := Fn.ex; exact ⟨oc, od, osl, lk⟩⟩
  · obtain ⟨oc, od, kV, doc, pm, an, cdv, ct, osl, rfl, lk, hcd⟩ := Fn.ex
    exact fun s ws _ hl => .of_eq (hb2 kV doc pm an cdv ct ws hl)
  · obtain ⟨oc, od, kV, doc, pm, an, cdv, ct, osl, rfl, lk, hcd⟩ := Fn.ex
    refine gfn_body lk hcd S (fun vs H Q E q => q.1) fun A fs s H vs Q E hr hgd hsp => ?_
    obtain ⟨hl, F, t, T, as, k, ar, wt, h, fin⟩ := hsp
    refine ⟨_, (body f cdv A fs s H E hr hgd).nox, start' N as, T, t, F, H, F, _, ⟨wd_start ar wt, Grow.refl _ _ _, fun i xs l e1 _ => ?_⟩, h, ?_⟩
    · exact absurd rfl ((argGet (H := H) ar i _ (startGet e1)).2 xs)
    · exact ⟨fun ρ T' σ' F' H' w' _ q => fin .non H' F' .non T' w'.w.wt w'.g .non q, fun v H' F' d T' w' g' r' q => fin v H' F' d T' w' g' r' q, fun _ _ _ _ _ _ _ q => q.elim, fun _ _ _ _ _ _ _ q => q.elim⟩

section
variable {X : Cx} {n : Nat} {x : Str} {ps : List Str} {sem : Sem} {p pos : Pos} {e : Expr} {es : List Expr} {kws : List Keyword} {fr : dA}
def dCall (n : Nat) (sem : Sem) (fr : dA) : dE := fun ρ T k => fr ρ T fun as T1 => as.length = n ∧ sem as T1 k
theorem call_ok {K : PySem.W.Frag} {E : XK} {σ : L2.St} {H : Hp} {Q : VK} (h : tD K (dCall n sem fr) σ H Q) : tCall (spD K n sem) [] E (tDA K fr) σ H Q := by
  obtain ⟨ρ, T, t, F, k, w, h, f⟩ := h
  refine ⟨ρ, T, t, F, _, w, h, fun vs H1 F1 as T1 w1 g1 r1 h1 => ?_⟩
  show spD K n sem (vs ++ []) H1 Q E
  rw [List.append_nil]
  exact ⟨by rw [← r1.len]; exact h1.1, F1, t, T1, as, k, r1, w1, h1.2, f.then g1⟩
theorem d_call (G : Ok X.prog X.w X.K X.mg X.base n x ps sem) (hr : Room n X.A) (hgd : X.A.guards = some []) (ha : PAd X (e :: es) fr) (hg : Gl X x := by rfl)
    (hd : (x == ("__debug__" : Str)) = false := by decide) (he : starEach (e :: es) X.env = (false, eval e X.env) :: starEach es X.env := by rfl) (hp : (backTo pos (starEach es X.env)).any (·.1) = false := by rfl) : PEd X (.Call (.Name x p) (e :: es) [] pos) (dCall ps.length sem fr) := by
  obtain ⟨f, fd, h1, h2, h3, _, h5, _⟩ := G
  exact pe_imp (g_call (E := E0) h5 hr hgd hg h1 h2 h3 pass0 ha hd he hp) fun _ _ _ h => call_ok h
theorem pk_imp {t u : TA} (h : PK X kws t) (i : ∀ σ H Q, u σ H Q → t σ H Q) : PK X kws u := ⟨fun pos pins s σ H Q I q => h.run pos pins s σ H Q I (i _ _ _ q)⟩
abbrev PKd (X : Cx) (kws : List Keyword) (f : dA) : Prop := PK X kws (tDA X.K f)
theorem k_nil : PKd X [] aNil := by
  refine pk_imp pk_nil fun σ H Q h => ?_
  obtain ⟨ρ, T, t, F, k, w, h, f⟩ := h
  exact f _ _ _ _ _ w.wt (Grow.refl _ _ _) .nil h
theorem k_cons {nm : Option Str} {kp : Pos} {fe : dE} (he : PEd X e fe) (hr : PKd X kws fr) : PKd X (⟨nm, e, kp⟩ :: kws) (aCons fe fr) := by
  refine pk_imp (pk_cons he hr) fun σ H Q h => ?_
  obtain ⟨ρ, T, t, F, k, w, h, f⟩ := h
  refine ⟨ρ, T, t, F, _, w, h, fun v H1 F1 x T1 w1 g1 r1 h1 => ?_⟩
  refine ⟨ρ, T1, t, F1, _, w.grow g1 w1, h1, fun vs H2 F2 as T2 w2 g2 r2 h2 => ?_⟩
  exact f _ _ _ _ _ w2 (g1.trans g2) (.val (r1.mono g2.sub) r2) h2
theorem d_callK (G : Ok X.prog X.w X.K X.mg X.base n x ps sem) (hr : Room n X.A) (hgd : X.A.guards = some []) (hkw : PKd X kws fr) (hg : Gl X x := by rfl) (hd : (x == ("__debug__" : Str)) = false := by decide)
    (hall : (backToKw pos (keywordEach kws X.env)).all (·.1.isSome) = true := by rfl) (hks : (backToKw pos (keywordEach kws X.env)).filterMap (·.1) = ps := by rfl)
    (hp : ((backTo pos (starEach [] X.env)).any (·.1) || (backToKw pos (keywordEach kws X.env)).any (·.1.isNone)) = false := by rfl) : PEd X (.Call (.Name x p) [] kws pos) (dCall ps.length sem fr) := by
  obtain ⟨f, fd, h1, h2, _, h4, h5, _⟩ := G
  exact pe_imp (g_callK (E := E0) h5 hr hgd hg h1 h2 pass0 h4 hkw hd hall hks hp) fun _ _ _ h => call_ok h
end
end L2.G

namespace L2.G
open PySem PySem.Spec PyProof.Rows

/-! built-in functions -/
section
variable {X : Cx} {x : Str} {p pos : Pos} {e : Expr} {es : List Expr} {fr : dA} {id T : String} {r : List V → Hp → VK → Prop}
def dBlt (o : List D → (D → Prop) → Prop) (fr : dA) : dE := fun ρ T k => fr ρ T fun as T1 => match vals? as with | some ds => o ds fun d => k d T1 | none => False
def BltS (K : PySem.W.Frag) (r : List V → Hp → VK → Prop) (o : List D → (D → Prop) → Prop) : Prop := ∀ {t : Option Addr} {F H : Hp} {T : Tk} {ds : List D} {vs : List V} {k : KD} {Q : VK}, Wt K T t F H → RepL K F ds vs → o ds (fun d => k d T) → Fin K t F H k Q → r vs H Q
theorem blt_ok {K : PySem.W.Frag} {o : List D → (D → Prop) → Prop} (s : BltS K r o) {σ : L2.St} {H : Hp} {Q : VK} (h : tD K (dBlt o fr) σ H Q) : tCB r (tDA K fr) σ H Q := by
  obtain ⟨ρ, T, t, F, k, w, h, f⟩ := h
  refine ⟨ρ, T, t, F, _, w, h, fun vs H1 F1 as T1 w1 g1 r1 h1 => ?_⟩
  split at h1
  · rename_i ds e
    exact s w1 (r1.vals e) h1 (f.then g1)
  · exact h1.elim
theorem d_blt {o : List D → (D → Prop) → Prop} (hc : CallR X (.builtin id) r) (s : BltS X.K r o) (hm : X.mg x = none) (ha : PAd X (e :: es) fr) (hv : bootBuiltins x = some (.builtin id) := by decide +kernel) (hg : Gl X x := by rfl) (hn : x ≠ "__name__" := by decide) (hd : (x == ("__debug__" : Str)) = false := by decide)
    (he : starEach (e :: es) X.env = (false, eval e X.env) :: starEach es X.env := by rfl) (hp : (backTo pos (starEach es X.env)).any (·.1) = false := by rfl) : PEd X (.Call (.Name x p) (e :: es) [] pos) (dBlt o fr) :=
  pe_imp (pe_callB hc hg hm hv ha hn hd he hp) fun _ _ _ h => blt_ok s h
theorem d_blty {o : List D → (D → Prop) → Prop} (hc : CallR X (.type T) r) (s : BltS X.K r o) (hm : X.mg x = none) (ha : PAd X (e :: es) fr) (hv : bootBuiltins x = some (.type T) := by decide +kernel) (hg : Gl X x := by rfl) (hn : x ≠ "__name__" := by decide) (hd : (x == ("__debug__" : Str)) = false := by decide)
    (he : starEach (e :: es) X.env = (false, eval e X.env) :: starEach es X.env := by rfl) (hp : (backTo pos (starEach es X.env)).any (·.1) = false := by rfl) : PEd X (.Call (.Name x p) (e :: es) [] pos) (dBlt o fr) :=
  pe_imp (pe_callTy hc hg hm hv ha hn hd he hp) fun _ _ _ h => blt_ok s h
/-! len -/
def oLen (ds : List D) (k : D → Prop) : Prop := match ds with | [.tup xs] => k (.int xs.length) | [.lst xs] => k (.int xs.length) | [.scr xs] => k (.int xs.length) | _ => False
theorem oLen_ok {K : PySem.W.Frag} : BltS K (fun xs H Q => ∃ p ys, xs = [.ref p] ∧ (SqL K H p ys ∨ SqT K H p ys) ∧ Q (.int ys.length) H) oLen := by
  intro t F H T ds vs k Q wt r q f
  unfold oLen at q
  split at q
  · cases r with
    | cons r rr =>
      cases rr
      obtain ⟨a, ws, rfl, h, r⟩ := rep_tup r
      rw [r.len] at q
      exact ⟨a, ws, rfl, .inr (same_t wt.sub h), f.val wt (.int _) q⟩
  · cases r with
    | cons r rr =>
      cases rr
      obtain ⟨a, ws, rfl, h, r⟩ := rep_lst r
      rw [r.len] at q
      exact ⟨a, ws, rfl, .inl (.of (wt.sub _ _ h)), f.val wt (.int _) q⟩
  · cases r with
    | cons r rr =>
      cases rr
      obtain ⟨a, ws, rfl, h, r⟩ := rep_scr r
      rw [r.len] at q
      exact ⟨a, ws, rfl, .inl (wt.sub.seq h), f.val wt (.int _) q⟩
  · exact q.elim
/-! functions of ints -/
def o1 (g : Int → Int) (ds : List D) (k : D → Prop) : Prop := match ds with | [.int i] => k (.int (g i)) | _ => False
def o2 (g : Int → Int → Int) (ds : List D) (k : D → Prop) : Prop := match ds with | [.int i, .int j] => k (.int (g i j)) | _ => False
theorem o1_ok {K : PySem.W.Frag} {g : Int → Int} : BltS K (fun xs H Q => ∃ i, xs = [.int i] ∧ Q (.int (g i)) H) (o1 g) := by
  intro t F H T ds vs k Q wt r q f
  unfold o1 at q
  split at q
  · cases r with
    | cons r rr => cases rr; cases r; exact ⟨_, rfl, f.val wt (.int _) q⟩
  · exact q.elim
theorem o2_ok {K : PySem.W.Frag} {g : Int → Int → Int} : BltS K (fun xs H Q => ∃ i j, xs = [.int i, .int j] ∧ Q (.int (g i j)) H) (o2 g) := by
  intro t F H T ds vs k Q wt r q f
  unfold o2 at q
  split at q
  · cases r with
    | cons r rr => cases rr with | cons r2 rr => cases rr; cases r; cases r2; exact ⟨_, _, rfl, f.val wt (.int _) q⟩
  · exact q.elim
/-- int(e) of an int, of a truth value -/
def oIntB (ds : List D) (k : D → Prop) : Prop := match ds with | [.int i] => k (.int i) | [.bl b] => k (.int (if b then 1 else 0)) | _ => False
theorem oIntB_ok {K : PySem.W.Frag} : BltS K (fun xs H Q => (∃ i, xs = [.int i] ∧ Q (.int i) H) ∨ ∃ k, xs = [.bl k] ∧ Q (.int (if k then 1 else 0)) H) oIntB := by
  intro t F H T ds vs k Q wt r q f
  unfold oIntB at q
  split at q
  · cases r with
    | cons r rr => cases rr; cases r; exact .inl ⟨_, rfl, f.val wt (.int _) q⟩
  · cases r with
    | cons r rr => cases rr; cases r; exact .inr ⟨_, rfl, f.val wt (.int _) q⟩
  · exact q.elim
/-! isqrt -/
/-! divmod -/
def DmOk (i j : Int) : Prop := 0 < j ∧ j.natAbs < 2 ^ 9000
def oDivmod (ds : List D) (k : D → Prop) : Prop := match ds with | [.int i, .int j] => DmOk i j ∧ k (.tup [.int (i / j), .int (i % j)]) | _ => False
theorem call_divmodQ : CallR X (.builtin "divmod") (fun xs H Q => ∃ i j, xs = [.int i, .int j] ∧ DmOk i j ∧ ∀ p, H p = none → Q (.ref p) (upd H p (.tup [.int (i / j), .int (i % j)]))) :=
  fun pins s σ H xs us Q I r ⟨i, j, e, c, q⟩ => call_divmodW pins s σ H xs us Q I r ⟨i, j, e, ⟨c.1, PyProof.noPylong_of_log2 (PySem.Flt.log2_lt_of (by decide) c.2)⟩, q⟩
theorem oDivmod_ok {K : PySem.W.Frag} : BltS K (fun xs H Q => ∃ i j, xs = [.int i, .int j] ∧ DmOk i j ∧ ∀ p, H p = none → Q (.ref p) (upd H p (.tup [.int (i / j), .int (i % j)]))) oDivmod := by
  intro t F H T ds vs k Q wt r q f
  unfold oDivmod at q
  split at q
  · cases r with
    | cons r rr => cases rr with | cons r2 rr => cases rr; cases r; cases r2; exact ⟨_, _, rfl, q.1, fun p hp => f.tup wt (.cons (.int _) (.cons (.int _) .nil)) hp q.2⟩
  · exact q.elim
/-! all, any, sum of a list -/
def bls? : List D → Option (List Bool)
  | [] => some [] | .bl b :: r => (bls? r).map (b :: ·) | _ :: _ => none
def nums? : List D → Option (List Int)
  | [] => some [] | .int b :: r => (nums? r).map (b :: ·) | _ :: _ => none
theorem bls_some : ∀ {ds : List D} {bs : List Bool}, bls? ds = some bs → ds = bs.map D.bl
  | [], bs, e => by cases e; rfl
  | d :: ds, bs, e => by
    have ih := fun cs => bls_some (ds := ds) (bs := cs)
    cases d with
    | bl b =>
      simp only [bls?, Option.map_eq_some_iff] at e
      obtain ⟨cs, h1, rfl⟩ := e
      rw [ih cs h1]
      rfl
    | _ => exact absurd e (by simp [bls?])
theorem bls_inv {K : PySem.W.Frag} {F : Hp} : ∀ {bs : List Bool} {vs : List V}, RepL K F (bs.map D.bl) vs → vs = bs.map V.bl
  | [], _, r => by cases r; rfl
  | b :: bs, _, r => by
    cases r with
    | cons r q => rw [rep_bl r, bls_inv q]; rfl
theorem bls_rep {K : PySem.W.Frag} {F : Hp} {ds : List D} {vs : List V} {bs : List Bool} (r : RepL K F ds vs) (e : bls? ds = some bs) : vs = bs.map V.bl := by
  rw [bls_some e] at r
  exact bls_inv r
def oAll (ds : List D) (k : D → Prop) : Prop := match ds with | [.lst xs] => (match bls? xs with | some bs => k (.bl (bs.all _root_.id)) | none => False) | _ => False
theorem oAll_ok {K : PySem.W.Frag} : BltS K (rAll K) oAll := by
  intro t F H T ds vs k Q wt r q f
  unfold oAll at q
  split at q
  · split at q
    · rename_i e
      cases r with
      | cons r rr =>
        cases rr
        obtain ⟨a, ws, rfl, h, r⟩ := rep_lst r
        have e2 := bls_rep r e
        subst e2
        exact ⟨a, _, rfl, .of (wt.sub _ _ h), f.val wt (.bl _) q⟩
    · exact q.elim
  · exact q.elim
/-! tuple(xs), list(xs) -/
def oTuple (ds : List D) (k : D → Prop) : Prop := match ds with | [.lst xs] => k (.tup xs) | [.tup xs] => k (.tup xs) | _ => False
def oList (ds : List D) (k : D → Prop) : Prop := match ds with | [.lst xs] => k (.lst xs) | [.tup xs] => k (.lst xs) | [.scr xs] => k (.lst xs) | _ => False
theorem oTuple_ok {K : PySem.W.Frag} : BltS K (fun xs H Q => ∃ p ys, xs = [.ref p] ∧ ((SqL K H p ys ∧ ∀ l, H l = none → Q (.ref l) (upd H l (.tup ys))) ∨ (SqT K H p ys ∧ Q (.ref p) H))) oTuple := by
  intro t F H T ds vs k Q wt r q f
  unfold oTuple at q
  split at q
  · cases r with
    | cons r rr =>
      cases rr
      obtain ⟨a, ws, rfl, h, r⟩ := rep_lst r
      exact ⟨a, ws, rfl, .inl ⟨.of (wt.sub _ _ h), fun l hl => f.tup wt r hl q⟩⟩
  · cases r with
    | cons r rr =>
      cases rr
      have r0 := r
      obtain ⟨a, ws, rfl, h, r⟩ := rep_tup r
      exact ⟨a, ws, rfl, .inr ⟨same_t wt.sub h, f.val wt r0 q⟩⟩
  · exact q.elim
theorem oList_ok {K : PySem.W.Frag} : BltS K (fun xs H Q => ∃ p ys, xs = [.ref p] ∧ (SqL K H p ys ∨ SqT K H p ys) ∧ ∀ l, H l = none → Q (.ref l) (upd H l (.lst ys))) oList := by
  intro t F H T ds vs k Q wt r q f
  unfold oList at q
  split at q
  · cases r with
    | cons r rr =>
      cases rr
      obtain ⟨a, ws, rfl, h, r⟩ := rep_lst r
      exact ⟨a, ws, rfl, .inl (.of (wt.sub _ _ h)), fun l hl => f.lst wt r hl q⟩
  · cases r with
    | cons r rr =>
      cases rr
      obtain ⟨a, ws, rfl, h, r⟩ := rep_tup r
      exact ⟨a, ws, rfl, .inr (same_t wt.sub h), fun l hl => f.lst wt r hl q⟩
  · cases r with
    | cons r rr =>
      cases rr
      obtain ⟨a, ws, rfl, h, r⟩ := rep_scr r
      exact ⟨a, ws, rfl, .inl (wt.sub.seq h), fun l hl => f.lst wt r hl q⟩
  · exact q.elim
/-! repr -/
def D.shOk (d : D) : Prop := d.eqOk ∧ d.py.showable = true ∧ d.py.shown.length ≤ sizeLine
def oRepr (ds : List D) (k : D → Prop) : Prop := match ds with | [.tup xs] => D.shOk (.tup xs) ∧ k (.str (D.py (.tup xs)).shown) | [.lst xs] => D.shOk (.lst xs) ∧ k (.str (D.py (.lst xs)).shown) | [.int i] => i.natAbs.log2 < 1920 ∧ k (.str (toString i)) | [.bl b] => k (.str (if b then "True" else "False")) | [.non] => k (.str "None") | _ => False
theorem call_reprD (hgd : X.A.guards = some []) (hu : X.A.units + 66 < cLine) : CallR X (.builtin "repr") (fun xs H Q => (∃ a d, xs = [.ref a] ∧ Dp X.K H (.ref a) d ∧ SeqAt.shaped d = true ∧ d.showable = true ∧ d.shown.length ≤ sizeLine ∧ Q (.str d.shown) H) ∨ ((∃ i, xs = [.int i] ∧ i.natAbs.log2 < 1920 ∧ Q (.str (toString i)) H) ∨ (∃ b : Bool, xs = [.bl b] ∧ Q (.str (if b then "True" else "False")) H) ∨ (xs = [.non] ∧ Q (.str "None") H))) := by
  intro pins s σ H xs us Q I r h
  rcases h with h | h
  · obtain ⟨a, d, rfl, hd, hs, hw, hl, q⟩ := h
    obtain ⟨u, rfl, ru⟩ := vals1 r
    obtain ⟨as, rd⟩ := Dp.reads I d _ u hd ru
    have e : u = Value.ref a := ru
    subst e
    have dl := SeqAt.depth_of_shaped hs
    refine repr_of_reads' rd hw (PyData.noDict_hsm (PyData.hasDict_of_canLay d (SeqAt.canLay_of_shaped hs))) hgd (by omega) (fun _ _ e => e) (fun h' u tk hk => ?_) hl
    exact ⟨.str _, H, I.kept (h' := h') (t' := tk) hk, ⟨_, rfl⟩, q⟩
  · rcases h with h | ⟨b, rfl, q⟩ | ⟨rfl, q⟩
    · exact SkE.call_repr_int pins s σ H xs us Q I r h
    · obtain ⟨u, rfl, ru⟩ := vals1 r
      cases ru
      exact PySem.P.repr_of_bool ⟨.str _, H, I.tok _, ⟨_, rfl⟩, q⟩
    · obtain ⟨u, rfl, ru⟩ := vals1 r
      cases ru
      exact PySem.P.repr_of_none ⟨.str _, H, I.tok _, ⟨_, rfl⟩, q⟩
theorem oRepr_ok {K : PySem.W.Frag} : BltS K (fun xs H Q => (∃ a d, xs = [.ref a] ∧ Dp K H (.ref a) d ∧ SeqAt.shaped d = true ∧ d.showable = true ∧ d.shown.length ≤ sizeLine ∧ Q (.str d.shown) H) ∨ ((∃ i, xs = [.int i] ∧ i.natAbs.log2 < 1920 ∧ Q (.str (toString i)) H) ∨ (∃ b : Bool, xs = [.bl b] ∧ Q (.str (if b then "True" else "False")) H) ∨ (xs = [.non] ∧ Q (.str "None") H))) oRepr := by
  intro t F H T ds vs k Q wt r q f
  unfold oRepr at q
  split at q
  · cases r with
    | cons r rr =>
      cases rr
      have r0 := r
      obtain ⟨a, ws, rfl, h, r⟩ := rep_tup r
      exact .inl ⟨a, _, rfl, r0.dp wt.sub q.1.1.1, q.1.1.2, q.1.2.1, q.1.2.2, f.val wt (.str _) q.2⟩
  · cases r with
    | cons r rr =>
      cases rr
      have r0 := r
      obtain ⟨a, ws, rfl, h, r⟩ := rep_lst r
      exact .inl ⟨a, _, rfl, r0.dp wt.sub q.1.1.1, q.1.1.2, q.1.2.1, q.1.2.2, f.val wt (.str _) q.2⟩
  · cases r with
    | cons r rr => cases rr; cases r; exact .inr (.inl ⟨_, rfl, q.1, f.val wt (.str _) q.2⟩)
  · cases r with
    | cons r rr => cases rr; cases r; exact .inr (.inr (.inl ⟨_, rfl, f.val wt (.str _) q⟩))
  · cases r with
    | cons r rr => cases rr; cases r; exact .inr (.inr (.inr ⟨rfl, f.val wt (.str _) q⟩))
  · exact q.elim
end
end L2.G

namespace L2.G
open PySem PySem.Spec PyProof.Rows

section
variable {X : Cx} {a b e : Expr} {fa fb fe : dE} {pos : Pos}
/-! slices -/
abbrev dP := En → Tk → (Option Int → Tk → Prop) → Prop
def tDO (K : PySem.W.Frag) (f : dP) : TO := fun σ H Q => ∃ ρ T t F k, Wd K ρ T t σ F H ∧ f ρ T k ∧ ∀ o H' F' T', Wt K T' t F' H' → Grow t F H F' H' → k o T' → Q o H'
abbrev POd (X : Cx) (e : Option Expr) (f : dP) : Prop := PO X e (tDO X.K f)
theorem po_imp {e : Option Expr} {t u : TO} (h : PO X e t) (i : ∀ σ H Q, u σ H Q → t σ H Q) : PO X e u := ⟨fun pins s σ H Q I q => h.run pins s σ H Q I (i _ _ _ q)⟩
theorem p_none : POd X none (fun _ T k => k none T) := by
  refine po_imp po_none fun σ H Q h => ?_
  obtain ⟨ρ, T, t, F, k, w, h, f⟩ := h
  exact f _ _ _ _ w.wt (Grow.refl _ _ _) h
def pSome (fe : dE) : dP := fun ρ T k => fe ρ T fun d T1 => match d with | .int i => k (some i) T1 | _ => False
theorem p_some (he : PEd X e fe) : POd X (some e) (pSome fe) := by
  refine po_imp (po_some he) fun σ H Q h => ?_
  obtain ⟨ρ, T, t, F, k, w, h, f⟩ := h
  refine ⟨ρ, T, t, F, _, w, h, fun v H1 F1 x T1 w1 g1 r1 h1 => ?_⟩
  split at h1
  · cases r1; exact ⟨_, rfl, f _ _ _ _ w1 g1 h1⟩
  · exact h1.elim
def cutD (xs : List D) (lo hi : Option Int) : List D := (xs.drop (HT.sIx xs.length 0 lo)).take (HT.sIx xs.length xs.length hi - HT.sIx xs.length 0 lo)
theorem cut_rep {K : PySem.W.Frag} {F : Hp} {ds : List D} {vs : List V} (r : RepL K F ds vs) (lo hi : Option Int) : RepL K F (cutD ds lo hi) (cutV vs lo hi) := by
  unfold cutD cutV
  rw [r.len]
  exact (r.drop _).take _
def dSl (fe : dE) (lo hi : dP) : dE := fun ρ T k => fe ρ T fun x T1 => lo ρ T1 fun l T2 => hi ρ T2 fun h T3 => match x with | .lst xs => k (.lst (cutD xs l h)) T3 | .scr xs => k (.lst (cutD xs l h)) T3 | .tup xs => k (.tup (cutD xs l h)) T3 | _ => False
theorem d_slice {lo hi : Option Expr} {fl fh : dP} {p2 : Pos} (he : PEd X e fe) (hl : POd X lo fl) (hh : POd X hi fh) : PEd X (.Subscript e (.Slice lo hi none p2) pos) (dSl fe fl fh) := by
  refine pe_imp (pe_slice (sl_list.or sl_tupA) he hl hh) fun σ H Q h => ?_
  obtain ⟨ρ, T, t, F, k, w, h, f⟩ := h
  refine ⟨ρ, T, t, F, _, w, h, fun v H1 F1 x T1 w1 g1 r1 h1 => ?_⟩
  refine ⟨ρ, T1, t, F1, _, w.grow g1 w1, h1, fun l H2 F2 T2 w2 g2 h2 => ?_⟩
  refine ⟨ρ, T2, t, F2, _, (w.grow g1 w1).grow g2 w2, h2, fun u H3 F3 T3 w3 g3 h3 => ?_⟩
  have r3 := (r1.mono g2.sub).mono g3.sub
  have f3 := f.then ((g1.trans g2).trans g3)
  split at h3
  · obtain ⟨p, vs, rfl, h, r⟩ := rep_lst r3
    exact .inl ⟨p, vs, rfl, .of (w3.sub _ _ h), fun q hq => f3.lst w3 (cut_rep r l u) hq h3⟩
  · obtain ⟨p, vs, rfl, h, r⟩ := rep_scr r3
    exact .inl ⟨p, vs, rfl, w3.sub.seq h, fun q hq => f3.lst w3 (cut_rep r l u) hq h3⟩
  · have r0 := r3
    obtain ⟨p, vs, rfl, h, r⟩ := rep_tup r3
    refine .inr ⟨p, vs, rfl, same_t w3.sub h, fun hw => ?_, fun _ q hq => f3.tup w3 (cut_rep r l u) hq h3⟩
    rename_i xs
    have e : cutD xs l u = xs := by
      unfold cutD
      rw [r.len, hw.1, hw.2, Nat.sub_zero, List.drop_zero, ← r.len, List.take_length]
    rw [e] at h3
    exact f3.val w3 r0 h3
  · exact h3.elim

/-! xs + ys, xs * n -/
def oCat : Op2 := fun x y k => match x, y with
  | .lst xs, .lst ys => xs.length + ys.length ≤ 1000000 ∧ k (.lst (xs ++ ys))
  | .tup xs, .tup ys => xs.length + ys.length ≤ 1000000 ∧ k (.tup (xs ++ ys))
  | .str s, .str u => s.length + u.length ≤ 1000000 ∧ k (.str (s ++ u))
  | _, _ => False
theorem oCat_ok {K : PySem.W.Frag} : OpS K (fun x y H Q => (rCat x y H Q ∨ rCatA K x y H Q) ∨ ∃ i j, x = .str i ∧ y = .str j ∧ i.length + j.length ≤ sizeLine ∧ Q (.str (i ++ j)) H) oCat := by
  intro t F H T x y v w k Q wt r1 r2 q f
  unfold oCat at q
  split at q
  · obtain ⟨a, vs, rfl, h1, r1⟩ := rep_lst r1
    obtain ⟨b, ws, rfl, h2, r2⟩ := rep_lst r2
    exact .inl (.inl ⟨a, b, vs, ws, rfl, rfl, wt.sub _ _ h1, wt.sub _ _ h2, by rw [← r1.len, ← r2.len]; exact small_line q.1, fun p hp => f.lst wt (r1.app r2) hp q.2⟩)
  · have p1 := r1
    have p2 := r2
    obtain ⟨a, vs, rfl, h1, r1⟩ := rep_tup r1
    obtain ⟨b, ws, rfl, h2, r2⟩ := rep_tup r2
    refine .inl (.inr ⟨a, b, vs, ws, rfl, rfl, same_t wt.sub h1, same_t wt.sub h2, by rw [← r1.len, ← r2.len]; exact small_line q.1, fun e => ?_, fun _ e => ?_, fun _ _ p hp => f.tup wt (r1.app r2) hp q.2⟩)
    · subst e
      cases r1
      exact f.val wt p2 q.2
    · subst e
      cases r2
      rw [List.append_nil] at q
      exact f.val wt p1 q.2
  · cases r1
    cases r2
    exact .inr ⟨_, _, rfl, rfl, small_line q.1, f.val wt (.str _) q.2⟩
  · exact q.elim
/-! in -/
theorem pyL_any {p : PyData → Bool} : ∀ ys : List D, (D.pyL ys).any p = ys.any fun z => p z.py
  | [] => rfl
  | y :: ys => by simp [D.pyL, pyL_any ys]
/-! isinstance(e, T), T a built-in type -/
def D.ty : D → String
  | .non => "NoneType" | .bl _ => "bool" | .int _ => "int" | .str _ => "str" | .tup _ => "tuple" | .lst _ => "list" | .scr _ => "list" | .obj _ _ _ => "" | .ref _ => "" | .dct _ _ => "dict"
inductive Ty where | int | bool | str | tuple | list
def Ty.name : Ty → String | .int => "int" | .bool => "bool" | .str => "str" | .tuple => "tuple" | .list => "list"
def isTy : Ty → D → Option Bool
  | _, .obj _ _ _ => none
  | _, .ref _ => none
  | .int, .int _ => some true
  | .int, .bl _ => some true
  | .bool, .bl _ => some true
  | .str, .str _ => some true
  | .tuple, .tup _ => some true
  | .list, .lst _ => some true
  | .list, .scr _ => some true
  | _, _ => some false
theorem isTy_kit {T : Ty} {d : D} {r : Bool} (h : isTy T d = some r) : kitB d.ty T.name = some r := by
  cases T <;> cases d <;> simp [isTy] at h <;> subst h <;> simp only [D.ty, Ty.name] <;> decide +kernel
theorem rep_ty {K : PySem.W.Frag} {F H : Hp} (s : Same F H) {d : D} {v : V} (r : Rep K F d v) (h1 : ∀ C ns vs, d ≠ .obj C ns vs) (h2 : ∀ a, d ≠ .ref a) : TyX K H v (.type d.ty) := by
  cases r with
  | non => exact .base .non
  | bl b => exact .base (.bl b)
  | int i => exact .base (.int i)
  | str x => exact .base (.str x)
  | tup h _ =>
    rcases h with (h | ⟨o, h⟩) | ⟨o, its, n, h, c, _⟩
    · exact .base (.tup (s _ _ h))
    · exact .fTuple (s _ _ h)
    · exact .kTuple h c
  | lst h _ => exact .base (.lst (s _ _ h))
  | scr h _ =>
    rcases h with (h | ⟨o, h⟩) | ⟨o, its, n, h, c, _⟩
    · exact .base (.lst (s _ _ h))
    · exact .base (.frz (s _ _ h))
    · exact .kList h c
  | dct h _ _ => exact .base (.dK (s _ _ h))
  | obj _ _ _ => exact absurd rfl (h1 _ _ _)
  | ref a _ => exact absurd rfl (h2 a)
def dIsi (T : Ty) (fe : dE) : dE := fun ρ S k => fe ρ S fun d S1 => match isTy T d with | some r => k (.bl r) S1 | none => False
theorem d_isi (T' : Ty) {T : Str} {p p2 : Pos} (he : PEd X e fe) (hm : X.mg "isinstance" = none) (hmT : X.mg T = none) (hv : bootBuiltins T = some (.type T'.name) := by decide +kernel) (hg : Gl X "isinstance" := by rfl) (hgT : Gl X T := by rfl) (hn : T ≠ "__name__" := by decide) (hd : (T == ("__debug__" : Str)) = false := by decide)
    (hs : starEach [e, .Name T p2] X.env = (false, eval e X.env) :: starEach [.Name T p2] X.env := by rfl) (hp : (backTo pos (starEach [.Name T p2] X.env)).any (·.1) = false := by rfl) :
    PEd X (.Call (.Name "isinstance" p) [e, .Name T p2] [] pos) (dIsi T' fe) := by
  refine pe_imp (pe_callB call_isi hg hm (by decide +kernel) (pa_cons he (pa_cons (pe_bltn (v := .ty T'.name) hgT hmT hv rfl hn hd) pa_nil) hs) (by decide) (by decide) hs hp) fun σ H Q h => ?_
  obtain ⟨ρ, S, t, F, k, w, h, f⟩ := h
  refine ⟨ρ, S, t, F, _, w, h, fun v H1 F1 d S1 w1 g1 r1 h1 => ?_⟩
  split at h1
  · rename_i r e
    refine ⟨v, .ty T'.name, _, _, r, rfl, .ty T'.name, rep_ty w1.sub r1 (fun C ns vs z => ?_) (fun a z => ?_), kit_ty (isTy_kit e), (f.then g1).val w1 (.bl _) h1⟩
    · subst z; simp [isTy] at e
    · subst z; simp [isTy] at e
  · exact h1.elim
end

/-! lists of the def's own -/
section
variable {X : Cx} {e : Expr} {es : List Expr} {fe : dE} {fr : dA} {pos : Pos} {st : Stmt} {f : dS}
theorem Ws.own {K : PySem.W.Frag} {ρ : En} {T : Tk} {t : Option Addr} {σ : L2.St} {F0 H0 F H : Hp} (w : Ws K ρ T t σ F0 H0 F H) {i : Nat} {l : Addr} {xs : List D} {vs : List V} (hn : H l = none) (r : RepL K F xs vs) :
    Ws K (ρ.set i (some (.own xs))) T t (σ.set i (some (.ref l))) F0 H0 F (upd H l (.lst vs)) := by
  have hF : F l = none := w.w.wt.sub.free hn
  have g : Grow t F H F (upd H l (.lst vs)) := grow_own w.w.wt.sub hn
  have w1 := w.grow g (wt_own w.w.wt hn)
  have hl0 : H0 l = none := by
    cases q : H0 l with
    | none => rfl
    | some o => obtain ⟨o', h'⟩ := w.g.there l o q; rw [hn] at h'; cases h'
  have old : ∀ (j : Nat) (ys : List D) (m : Addr), ρ[j]? = some (some (SV.own ys)) → σ[j]? = some (some (V.ref m)) → m ≠ l := fun j ys m e1 e2 => by
    obtain ⟨v, h1, l', ws, rfl, _, h3, _, _⟩ := w.w.slot j _ e1
    rw [e2] at h1
    cases h1
    exact ne_of_none h3 hn
  refine ⟨⟨w1.w.wt, by simpa using w.w.len, fun j s e => ?_, fun j j' ys zs m e1 e2 e3 e4 => ?_⟩, w1.g, fun j ys m e1 e2 => ?_⟩
  · rcases getSet e with ⟨rfl, hl, e'⟩ | ⟨ne, e'⟩
    · cases e'
      refine ⟨.ref l, by rw [List.getElem?_set_self (by rw [← w.w.len]; exact hl)], l, vs, rfl, hF, upd_same, r, fun z => ?_⟩
      obtain ⟨_, us, hu, _⟩ := w.w.wt.tank l z
      rw [hn] at hu
      cases hu
    · obtain ⟨u, h1, h2⟩ := w1.w.slot j s e'
      exact ⟨u, by rw [List.getElem?_set_ne ne]; exact h1, h2⟩
  · rcases getSet e1 with ⟨rfl, hl1, _⟩ | ⟨n1, e1⟩
    · rcases getSet e2 with ⟨rfl, _, _⟩ | ⟨n2, e2⟩
      · rfl
      · rw [List.getElem?_set_self (by rw [← w.w.len]; exact hl1)] at e3
        cases e3
        rw [List.getElem?_set_ne n2] at e4
        exact absurd rfl (old j' zs _ e2 e4)
    · rw [List.getElem?_set_ne n1] at e3
      rcases getSet e2 with ⟨rfl, hl2, _⟩ | ⟨n2, e2⟩
      · rw [List.getElem?_set_self (by rw [← w.w.len]; exact hl2)] at e4
        cases e4
        exact absurd rfl (old j ys _ e1 e3)
      · rw [List.getElem?_set_ne n2] at e4
        exact w.w.apart j j' ys zs m e1 e2 e3 e4
  · rcases getSet e1 with ⟨rfl, hl1, _⟩ | ⟨n1, e1⟩
    · rw [List.getElem?_set_self (by rw [← w.w.len]; exact hl1)] at e2
      cases e2
      exact hl0
    · rw [List.getElem?_set_ne n1] at e2
      exact w.fr j ys m e1 e2
/-- x = [..], x a list that this def will change -/
def sOwn (i : Nat) (fr : dA) : dS := fun k ρ T => fr ρ T fun as T1 => match vals? as with | some ds => ds.length ≤ 1000000 ∧ k.nx (ρ.set i (some (.own ds))) T1 | none => False
theorem s_own (i : Nat) {x : Str} {pos' lp : Pos} (hN : X.N.Nodup) (ha : PAd X es fr) (hi : X.N[i]? = some x := by rfl) (hx : Loc X.env.scope x := by first | exact Or.inl rfl | exact Or.inr rfl) (hs : swapsWith (.List es lp) (some (.Name x pos')) pos.line X.env = pure false := by rfl)
    (hf : X.fn x = true ∨ X.env.scope.names.lookup x = some .local := by first | exact .inl rfl | exact .inr rfl | assumption) : PSd X (.Assign [.Name x pos'] (.List es lp) pos) (sOwn i fr) := by
  refine ps_imp (ps_set hN hi hx (pe_lst ha) hs hf) fun E σ H h => ?_
  obtain ⟨ρ, T, t, F0, H0, F, k, w, h, fe⟩ := h
  refine ⟨ρ, T, t, F, _, w.w, h, fun vs H1 F1 as T1 w1 g1 r1 h1 => ?_⟩
  split at h1
  · rename_i ds e
    have r := r1.vals e
    exact ⟨by rw [← r.len]; exact small_line h1.1, fun p hp => fe.nx _ _ _ _ _ ((w.grow g1 w1).own hp r) g1.sub h1.2⟩
  · exact h1.elim
/-- it will not be changed any more -/
def sFrz (i : Nat) (f : dS) : dS := fun k ρ T => match ρ[i]? with | some (some (.own xs)) => f k (ρ.set i (some (.val (.lst xs)))) T | _ => False
theorem Ws.frz {K : PySem.W.Frag} {ρ : En} {T : Tk} {t : Option Addr} {σ : L2.St} {F0 H0 F H : Hp} (w : Ws K ρ T t σ F0 H0 F H) {i : Nat} {xs : List D} (e : ρ[i]? = some (some (.own xs))) :
    ∃ F', Same F F' ∧ Ws K (ρ.set i (some (.val (.lst xs)))) T t σ F0 H0 F' H := by
  obtain ⟨v, hv, l, vs, rfl, hF, hH, r, nt⟩ := w.w.slot i _ e
  have sm : Same F (upd F l (.lst vs)) := same_upd hF
  have sub : Same (upd F l (.lst vs)) H := fun b u q => by
    by_cases hb : b = l
    · subst hb; rw [upd_same] at q; cases q; exact hH
    · rw [upd_ne hb] at q; exact w.w.wt.sub b u q
  have wt : Wt K T t (upd F l (.lst vs)) H := ⟨sub, fun a ea => by
    obtain ⟨n, us, hu, ru⟩ := w.w.wt.tank a ea
    have ne : a ≠ l := fun z => nt (by rw [ea, z])
    exact ⟨by rw [upd_ne ne]; exact n, us, hu, ru.mono sm⟩⟩
  refine ⟨_, sm, ⟨wt, by simpa using w.w.len, fun j s ej => ?_, fun j j' ys zs m e1 e2 e3 e4 => ?_⟩, ⟨w.g.sub.trans sm, w.g.keep, fun a o h0 n0 => ?_, w.g.there⟩, fun j ys m e1 e2 => ?_⟩
  · rcases getSet ej with ⟨rfl, _, e'⟩ | ⟨ne, e'⟩
    · cases e'
      exact ⟨.ref l, hv, .lst upd_same (r.mono sm)⟩
    · obtain ⟨u, h1, h2⟩ := w.w.slot j s e'
      refine ⟨u, h1, ?_⟩
      cases s with
      | val d => exact Rep.mono sm h2
      | tank => exact h2
      | own ys =>
        obtain ⟨m, us, rfl, f1, f2, f3, f4⟩ := h2
        have nm : m ≠ l := fun z => ne (w.w.apart i j xs ys l e e' hv (z ▸ h1))
        exact ⟨m, us, rfl, by rw [upd_ne nm]; exact f1, f2, f3.mono sm, f4⟩
  · rcases getSet e1 with ⟨_, _, z⟩ | ⟨n1, e1⟩
    · cases z
    · rcases getSet e2 with ⟨_, _, z⟩ | ⟨n2, e2⟩
      · cases z
      · exact w.w.apart j j' ys zs m e1 e2 e3 e4
  · have ne : a ≠ l := fun z => by
      have q := w.fr i xs l e hv
      rw [z, q] at h0
      cases h0
    rw [upd_ne ne]
    exact w.g.new a o h0 n0
  · rcases getSet e1 with ⟨_, _, z⟩ | ⟨n1, e1⟩
    · cases z
    · exact w.fr j ys m e1 e2
theorem Ws.chg {K : PySem.W.Frag} {ρ : En} {T : Tk} {t : Option Addr} {σ : L2.St} {F0 H0 F H : Hp} (w : Ws K ρ T t σ F0 H0 F H) {i : Nat} {xs ys : List D} {l : Addr} {ws : List V} (e : ρ[i]? = some (some (.own xs))) (hv : σ[i]? = some (some (.ref l))) (r : RepL K F ys ws) :
    Ws K (ρ.set i (some (.own ys))) T t σ F0 H0 F (upd H l (.lst ws)) := by
  obtain ⟨v, hv2, l2, vs, rfl, hF, hH, r0, nt⟩ := w.w.slot i _ e
  rw [hv] at hv2
  cases hv2
  have ne_t : ∀ a, t = some a → a ≠ l := fun a ea z => nt (by rw [ea, z])
  refine ⟨⟨⟨fun b u q => ?_, fun a ea => ?_⟩, by simpa using w.w.len, fun j s ej => ?_, fun j j' ys' zs m e1 e2 e3 e4 => ?_⟩, ⟨w.g.sub, fun a o h0 n0 => ?_, w.g.new, fun a o h0 => ?_⟩, fun j ys' m e1 e2 => ?_⟩
  · have ne : b ≠ l := fun z => by rw [z, hF] at q; cases q
    rw [upd_ne ne]
    exact w.w.wt.sub b u q
  · obtain ⟨n, us, hu, ru⟩ := w.w.wt.tank a ea
    exact ⟨n, us, by rw [upd_ne (ne_t a ea)]; exact hu, ru⟩
  · rcases getSet ej with ⟨rfl, _, e'⟩ | ⟨ne, e'⟩
    · cases e'
      exact ⟨.ref l, hv, l, ws, rfl, hF, upd_same, r, nt⟩
    · obtain ⟨u, h1, h2⟩ := w.w.slot j s e'
      refine ⟨u, h1, ?_⟩
      cases s with
      | val d => exact h2
      | tank => exact h2
      | own zs =>
        obtain ⟨m, us, rfl, f1, f2, f3, f4⟩ := h2
        have nm : m ≠ l := fun z => ne (w.w.apart i j xs zs l e e' hv (z ▸ h1))
        exact ⟨m, us, rfl, f1, by rw [upd_ne nm]; exact f2, f3, f4⟩
  · have back : ∀ {j : Nat} {zs : List D}, (ρ.set i (some (.own ys)))[j]? = some (some (.own zs)) → ∃ zs', ρ[j]? = some (some (.own zs')) := fun {j zs} q => by
      rcases getSet q with ⟨rfl, _, _⟩ | ⟨_, q⟩
      · exact ⟨_, e⟩
      · exact ⟨_, q⟩
    obtain ⟨_, q1⟩ := back e1
    obtain ⟨_, q2⟩ := back e2
    exact w.w.apart j j' _ _ m q1 q2 e3 e4
  · have ne : a ≠ l := fun z => by
      have q := w.fr i xs l e hv
      rw [z, q] at h0
      cases h0
    rw [upd_ne ne]
    exact w.g.keep a o h0 n0
  · have ne : a ≠ l := fun z => by
      have q := w.fr i xs l e hv
      rw [z, q] at h0
      cases h0
    rw [upd_ne ne]
    exact w.g.there a o h0
  · rcases getSet e1 with ⟨rfl, _, _⟩ | ⟨_, e1⟩
    · exact w.fr i xs m e e2
    · exact w.fr j ys' m e1 e2
/-- x.append(e) -/
def sApp (i : Nat) (fe : dE) : dS := fun k ρ T => match ρ[i]? with | some (some (.own xs)) => fe ρ T fun d T1 => xs.length < 1000000 ∧ k.nx (ρ.set i (some (.own (xs ++ [d])))) T1 | _ => False
end
end L2.G

namespace L2.G
open PySem PySem.Spec PyProof.Rows

/-! what is walked -/
structure Src (K : PySem.W.Frag) (t : Option Addr) (J : It) (F1 : Hp) (xs : List D) : Prop where
  go : ∀ i F H, Same F1 F → Same F H → i < xs.length → J.go i H
  yl : ∀ i T F H x H', Same F1 F → Wt K T t F H → i < xs.length → J.yld i H x H' → ∃ F' d, xs[i]? = some d ∧ Rep K F' d x ∧ Grow t F H F' H' ∧ Wt K T t F' H'
  st : ∀ F H, Same F1 F → Same F H → J.stop xs.length H
abbrev dI := En → Tk → (List D → Tk → Prop) → Prop
def tDI (K : PySem.W.Frag) (f : dI) : TI := fun σ H R => ∃ ρ T t F k, Wd K ρ T t σ F H ∧ f ρ T k ∧ ∀ J H' F' xs T', Wt K T' t F' H' → Grow t F H F' H' → Src K t J F' xs → xs.length ≤ 1000000 → k xs T' → R J H'
abbrev PId (X : Cx) (tg it : Expr) (f : dI) : Prop := PI X tg it (tDI X.K f)
theorem pi_imp {X : Cx} {tg e : Expr} {t u : TI} (h : PI X tg e t) (i : ∀ σ H Q, u σ H Q → t σ H Q) : PI X tg e u := ⟨fun pins s σ H Q I q => h.run pins s σ H Q I (i _ _ _ q)⟩

section
variable {X : Cx} {tg e e2 : Expr} {fe : dE} {fr : dA} {p pos : Pos} {f : dS}
theorem src_list {K : PySem.W.Frag} {t : Option Addr} {F1 : Hp} {a : Addr} {xs : List D} {vs : List V} (h : F1 a = some (.lst vs)) (r : RepL K F1 xs vs) : Src K t (Itl K a) F1 xs where
  go := fun i F H s1 s2 hi => by
    rw [r.len] at hi
    exact ⟨vs, vs[i], .of (s2 _ _ (s1 _ _ h)), by simp [hi]⟩
  yl := fun i T F H x H' s1 w hi y => by
    obtain ⟨rfl, y⟩ := y
    obtain ⟨d, hd, rd⟩ := r.getV (y vs (.of (w.sub _ _ (s1 _ _ h))))
    exact ⟨F, d, hd, rd.mono s1, Grow.refl _ _ _, w⟩
  st := fun F H s1 s2 => ⟨vs, .of (s2 _ _ (s1 _ _ h)), by rw [r.len]; exact Nat.le_refl _⟩
theorem src_tup {K : PySem.W.Frag} {t : Option Addr} {F1 : Hp} {a : Addr} {xs : List D} {vs : List V} (h : SqT K F1 a vs) (r : RepL K F1 xs vs) : Src K t (Itt K a) F1 xs where
  go := fun i F H s1 s2 hi => by
    rw [r.len] at hi
    exact ⟨vs, vs[i], same_t (s1.trans s2) h, by simp [hi]⟩
  yl := fun i T F H x H' s1 w hi y => by
    obtain ⟨rfl, y⟩ := y
    obtain ⟨d, hd, rd⟩ := r.getV (y vs (same_t (s1.trans w.sub) h))
    exact ⟨F, d, hd, rd.mono s1, Grow.refl _ _ _, w⟩
  st := fun F H s1 s2 => ⟨vs, same_t (s1.trans s2) h, by rw [r.len]; exact Nat.le_refl _⟩
theorem src_rng {K : PySem.W.Frag} {t : Option Addr} {F1 : Hp} {lo : Int} {n : Nat} : Src K t (Itr lo n) F1 (intsL lo n) where
  go := fun i F H s1 s2 hi => by rw [intsL_len] at hi; exact hi
  yl := fun i T F H x H' s1 w hi y => by
    rw [intsL_len] at hi
    obtain ⟨rfl, rfl⟩ := y
    exact ⟨F, _, intsL_get n lo i hi, .int _, Grow.refl _ _ _, w⟩
  st := fun F H s1 s2 => by rw [intsL_len]; exact Nat.le_refl n
def iR1 (fr : dA) : dI := fun ρ T k => fr ρ T fun as T1 => match as with | [.val (.int j)] => j ≤ 1000000 ∧ -(2 ^ 62) ≤ j ∧ k (intsL 0 j.toNat) T1 | _ => False
def iR2 (fr : dA) : dI := fun ρ T k => fr ρ T fun as T1 => match as with | [.val (.int i), .val (.int j)] => (j - i ≤ 1000000 ∧ -(2 ^ 61) ≤ i ∧ i < 2 ^ 61 ∧ -(2 ^ 61) ≤ j ∧ j < 2 ^ 61) ∧ k (intsL i (j - i).toNat) T1 | _ => False
theorem i_range1 {a : Expr} (hm : X.mg "range" = none) (ha : PAd X [a] fr) (hg : Gl X "range" := by rfl) (hs : starEach [a] X.env = [(false, eval a X.env)] := by rfl) : PId X tg (.Call (.Name "range" p) [a] [] pos) (iR1 fr) := by
  refine pi_imp (pi_range1 hg hm ha hs) fun σ H R h => ?_
  obtain ⟨ρ, T, t, F, k, w, h, f⟩ := h
  refine ⟨ρ, T, t, F, _, w, h, fun vs H1 F1 as T1 w1 g1 r1 h1 => ?_⟩
  split at h1
  · rename_i j
    cases r1 with
    | val r1 rr =>
      cases rr
      cases r1
      exact ⟨j, rfl, h1.2.1, by have := h1.1; omega, f _ _ _ _ _ w1 g1 src_rng (by rw [intsL_len]; have := h1.1; omega) h1.2.2⟩
  · exact h1.elim
/-- zip of two lists of one length -/
def zipD (xs ys : List D) : List D := List.zipWith (fun x y => D.tup [x, y]) xs ys
def iZ (fr : dA) : dI := fun ρ T k => fr ρ T fun as T1 => match as with | [.val (.lst xs), .val (.lst ys)] => (zipD xs ys).length ≤ 1000000 ∧ k (zipD xs ys) T1 | _ => False
/-! for -/
def sForI (fi : dI) (g : dG) (f : dS) : dS := fun k ρ T => fi ρ T fun xs T1 => forL g f k xs ρ T1
theorem s_forI {body : List Stmt} {g : dG} {fi : dI} (hp : PassesOwn (model X.prog X.w) X.A X.env X.xe) (hc : X.calm = true) (hi : PId X tg e fi) (hg : PGd X tg g) (hb : PSsd X body f) (hst : ∀ x, foldedSetIterable e X.env x = pure x := by intro _; rfl) : PSd X (.For tg e body [] pos) (sForI fi g f) := by
  refine ps_imp (ps_for hp hc hi hg hb hst) fun E σ H h => ?_
  obtain ⟨ρ, T, t, F0, H0, F, k, w, h, fE⟩ := h
  refine ⟨ρ, T, t, F, _, w.w, h, fun J H1 F1 xs T1 w1 g1 src hl h1 => ?_⟩
  refine ⟨fun i m σ' H' => m = xs.length - i ∧ i ≤ xs.length ∧ ∃ ρ' T' F', Ws X.K ρ' T' t σ' F0 H0 F' H' ∧ Same F1 F' ∧ forL g f k (xs.drop i) ρ' T', ⟨xs.length, by simp, Nat.zero_le _, ρ, T1, F1, w.grow g1 w1, Same.refl _, h1⟩, ?_⟩
  rintro i m σ' H' ⟨rfl, hi, ρ', T', F', w', s', hh⟩
  by_cases lt : i < xs.length
  · refine .inr ⟨src.go i F' H' s' w'.w.wt.sub lt, fun σ2 H2 => ∃ ρ' T' F', Ws X.K ρ' T' t σ2 F0 H0 F' H2 ∧ Same F1 F' ∧ forL g f k (xs.drop (i + 1)) ρ' T', fun σ2 H2 q => ⟨xs.length - (i + 1), by omega, rfl, lt, q⟩, fun x H2 y => ?_⟩
    obtain ⟨F2, d, hd, rd, g2, w2⟩ := src.yl i T' F' H' x H2 s' w'.w.wt lt y
    have hx : xs.drop i = d :: xs.drop (i + 1) := by rw [List.drop_eq_getElem_cons lt, (List.getElem?_eq_some_iff.mp hd).2]
    rw [hx] at hh
    have sF := (g1.sub.trans s').trans g2.sub
    refine ⟨ρ', T', t, F0, H0, F2, d, _, w'.grow g2 w2, rd, hh, fun ρ3 T3 σ3 F3 H3 w3 s3 h3 => ?_⟩
    have s3' := (s'.trans g2.sub).trans s3
    refine ⟨ρ3, T3, t, F0, H0, F3, _, w3, h3, ?_⟩
    exact ⟨fun ρ4 T4 σ4 F4 H4 w4 s4 q => ⟨ρ4, T4, F4, w4, s3'.trans s4, q⟩, fE.rt, fE.nx.to (sF.trans s3), fun ρ4 T4 σ4 F4 H4 w4 s4 q => ⟨ρ4, T4, F4, w4, s3'.trans s4, q⟩⟩
  · have e : i = xs.length := by omega
    subst e
    rw [List.drop_length] at hh
    exact .inl ⟨src.st F' H' s' w'.w.wt.sub, fE.nx _ _ _ _ _ w' (g1.sub.trans s') hh⟩

/-! comprehensions -/
theorem wipe_get : ∀ {vs : List Nat} {σ : L2.St} {j : Nat}, (wipe σ vs)[j]? = if j ∈ vs ∧ j < σ.length then some none else σ[j]?
  | [], σ, j => by simp [wipe]
  | v :: vs, σ, j => by
    unfold wipe
    by_cases e : v = j
    · subst e
      by_cases hl : v < σ.length
      · rw [List.getElem?_set_self (by rw [wipe_length]; exact hl), if_pos ⟨List.mem_cons_self, hl⟩]
      · rw [List.getElem?_eq_none (by rw [List.length_set, wipe_length]; omega), if_neg (fun z => hl z.2), List.getElem?_eq_none (by omega)]
    · rw [List.getElem?_set_ne e, wipe_get]
      have : (j ∈ v :: vs) ↔ j ∈ vs := by simp [Ne.symm e]
      simp only [this]
theorem wipe_set {vs : List Nat} {σ : L2.St} {i : Nat} {v : Option V} (h : i ∈ vs) : wipe (σ.set i v) vs = wipe σ vs := by
  apply List.ext_getElem?
  intro j
  rw [wipe_get, wipe_get, List.length_set]
  by_cases e : i = j
  · subst e
    by_cases hl : i < σ.length
    · rw [if_pos ⟨h, hl⟩, if_pos ⟨h, hl⟩]
    · rw [if_neg (fun z => hl z.2), if_neg (fun z => hl z.2), List.getElem?_eq_none (by simpa using hl), List.getElem?_eq_none (by simpa using hl)]
  · rw [List.getElem?_set_ne e]
theorem wipe_idem {vs : List Nat} {σ : L2.St} : wipe (wipe σ vs) vs = wipe σ vs := by
  apply List.ext_getElem?
  intro j
  rw [wipe_get, wipe_get, wipe_length]
  split
  · rfl
  · rfl
def wipeD (ρ : En) : List Nat → En
  | [] => ρ
  | v :: vs => (wipeD ρ vs).set v none
theorem wd_none {K : PySem.W.Frag} {ρ : En} {T : Tk} {t : Option Addr} {σ : L2.St} {F H : Hp} (w : Wd K ρ T t σ F H) (i : Nat) : Wd K (ρ.set i none) T t (σ.set i none) F H := by
  refine ⟨w.wt, by simpa using w.len, fun j s e => ?_, fun j j' xs ys l e1 e2 e3 e4 => ?_⟩
  · rcases getSet e with ⟨_, _, z⟩ | ⟨ne, e'⟩
    · cases z
    · obtain ⟨u, h1, h2⟩ := w.slot j s e'
      exact ⟨u, by rw [List.getElem?_set_ne ne]; exact h1, h2⟩
  · rcases getSet e1 with ⟨_, _, z⟩ | ⟨n1, e1⟩
    · cases z
    · rcases getSet e2 with ⟨_, _, z⟩ | ⟨n2, e2⟩
      · cases z
      · rw [List.getElem?_set_ne n1] at e3
        rw [List.getElem?_set_ne n2] at e4
        exact w.apart j j' xs ys l e1 e2 e3 e4
theorem wd_wipe {K : PySem.W.Frag} {ρ : En} {T : Tk} {t : Option Addr} {σ : L2.St} {F H : Hp} (w : Wd K ρ T t σ F H) : ∀ vs : List Nat, Wd K (wipeD ρ vs) T t (wipe σ vs) F H
  | [] => w
  | v :: vs => wd_none (wd_wipe w vs) v
/-- the targets of a comprehension -/
abbrev dC1 := D → En → Option En
def CG (K : PySem.W.Frag) (g : TG) (c : dC1) (vs : List Nat) : Prop := ∀ {ρ : En} {T : Tk} {t : Option Addr} {σ : L2.St} {F H : Hp} {d : D} {v : V} {ρ1 : En} {Q : L2.St → Hp → Prop}, Wd K ρ T t σ F H → Rep K F d v → c d ρ = some ρ1 → (∀ σ1, Wd K ρ1 T t σ1 F H → wipe σ1 vs = wipe σ vs → Q σ1 H) → g v σ H Q
def cN (i : Nat) : dC1 := fun d ρ => some (ρ.set i (some (.val d)))
theorem cg_name {K : PySem.W.Frag} {i : Nat} {vs : List Nat} (h : i ∈ vs := by decide) : CG K (gName i) (cN i) vs := fun w r e q => by
  cases e
  exact q _ (w.put r) (wipe_set h)
def setAll : List Nat → List D → En → Option En
  | [], [], ρ => some ρ
  | i :: is, d :: ds, ρ => setAll is ds (ρ.set i (some (.val d)))
  | _, _, _ => none
def cT (is : List Nat) : dC1 := fun d ρ => match d with | .tup ds => setAll is ds ρ | _ => none
def lcD (ρ : En) (c : dC1) (tt : dT) (el : dE) (k : List D → Tk → Prop) : List D → List D → Tk → Prop
  | [], acc, T => k acc T
  | d :: r, acc, T => match c d ρ with
    | some ρ1 => tt ρ1 T fun b T1 => if b = true then el ρ1 T1 fun y T2 => lcD ρ c tt el k r (acc ++ [y]) T2 else lcD ρ c tt el k r acc T1
    | none => False
def dLc (vs : List Nat) (fi : dI) (c : dC1) (tt : dT) (el : dE) : dE := fun ρ T k => fi ρ T fun xs T1 => lcD (wipeD ρ vs) c tt el (fun acc T2 => k (.lst acc) T2) xs [] T1
def dYes : dT := fun _ T k => k true T
theorem pts_imp {ifs : List Expr} {t u : TT} (h : PTs X ifs t) (i : ∀ σ H Q, u σ H Q → t σ H Q) : PTs X ifs u := ⟨fun pins s σ H Q I q => h.run pins s σ H Q I (i _ _ _ q)⟩
theorem ts_nil : PTs X [] (tDT X.K dYes) := pts_imp pts_nil fun σ H Q ⟨ρ, T, t, F, k, w, h, f⟩ => f _ _ _ _ w.wt (Grow.refl _ _ _) h
theorem ts_one {c : Expr} {tc : dT} (h : PTd X c tc) : PTs X [c] (tDT X.K tc) := pts_one h
theorem lc_ok {K : PySem.W.Frag} {fi : dI} {g : TG} {c : dC1} {tt : dT} {el : dE} {vs : List Nat} (cg : CG K g c vs) {σ : L2.St} {H : Hp} {Q : VK} (h : tD K (dLc vs fi c tt el) σ H Q) : tLc (tDI K fi) g (tDT K tt) (tD K el) vs σ H Q := by
  obtain ⟨ρ, T, t, F, k, w, h, f⟩ := h
  refine ⟨ρ, T, t, F, _, w, h, fun J H1 F1 xs T1 w1 g1 src hl h1 => ?_⟩
  intro L hL
  have wd1 := w.grow g1 w1
  refine ⟨fun i m H' => m = xs.length - i ∧ i ≤ xs.length ∧ ∃ acc av T' F', Wt K T' t F' H' ∧ Grow t F1 H1 F' H' ∧ F' L = none ∧ H' L = some (.lst av) ∧ RepL K F' acc av ∧ acc.length ≤ i ∧ lcD (wipeD ρ vs) c tt el (fun acc T2 => k (.lst acc) T2) (xs.drop i) acc T', ?_, ?_⟩
  · refine ⟨xs.length, by simp, Nat.zero_le _, [], [], T1, F1, wt_own w1 hL, grow_own w1.sub hL, w1.sub.free hL, upd_same, .nil, Nat.le_refl _, ?_⟩
    exact h1
  rintro i m H' ⟨rfl, hi, acc, av, T', F', wt', g', fL, hLv, ra, hal, hh⟩
  have tL : t ≠ some L := fun z => by
    obtain ⟨_, us, hu, _⟩ := w1.tank L z
    rw [hL] at hu
    cases hu
  by_cases lt : i < xs.length
  · refine .inr ⟨src.go i F' H' g'.sub wt'.sub lt, fun H2 => ∃ acc av T' F', Wt K T' t F' H2 ∧ Grow t F1 H1 F' H2 ∧ F' L = none ∧ H2 L = some (.lst av) ∧ RepL K F' acc av ∧ acc.length ≤ i + 1 ∧ lcD (wipeD ρ vs) c tt el (fun acc T2 => k (.lst acc) T2) (xs.drop (i + 1)) acc T', fun H2 q => ⟨xs.length - (i + 1), by omega, rfl, lt, q⟩, fun x H2 y => ?_⟩
    obtain ⟨F2, d, hd, rd, g2, w2⟩ := src.yl i T' F' H' x H2 g'.sub wt' lt y
    have hx : xs.drop i = d :: xs.drop (i + 1) := by rw [List.drop_eq_getElem_cons lt, (List.getElem?_eq_some_iff.mp hd).2]
    rw [hx] at hh
    unfold lcD at hh
    split at hh
    · rename_i ρ1 e1
      have wd2 : Wd K (wipeD ρ vs) T' t (wipe σ vs) F2 H2 := wd_wipe (wd1.grow (g'.trans g2) w2) vs
      refine cg wd2 rd e1 fun σ1 ws1 ew => ⟨by rw [ew, wipe_idem], ?_⟩
      refine ⟨ρ1, T', t, F2, _, ws1, hh, fun b H3 F3 T3 w3 g3 h3 => ?_⟩
      have gg := (g'.trans g2).trans g3
      have hL2 := g2.keep _ _ hLv tL
      have hL3 := g3.keep _ _ hL2 tL
      have fL2 := g2.new _ _ hLv fL
      have fL3 := g3.new _ _ hL2 fL2
      have ra3 := (ra.mono g2.sub).mono g3.sub
      cases b with
      | false => exact ⟨acc, av, T3, F3, w3, gg, fL3, hL3, ra3, by omega, h3⟩
      | true =>
        rw [if_pos rfl] at h3
        refine iteT ⟨ρ1, T3, t, F3, _, ws1.grow g3 w3, h3, fun u H4 F4 z T4 w4 g4 r4 h4 => ?_⟩
        have hL4 := g4.keep _ _ hL3 tL
        have fL4 := g4.new _ _ hL3 fL3
        have ra4 := ra3.mono g4.sub
        refine ⟨av, hL4, by rw [← ra4.len, sizeLine_eq]; omega, acc ++ [z], av ++ [u], T4, F4, ?_, ?_, fL4, upd_same, ra4.app (.cons r4 .nil), by simp; omega, h4⟩
        · refine ⟨fun b o q => ?_, fun a ea => ?_⟩
          · have ne : b ≠ L := fun z => by rw [z, fL4] at q; cases q
            rw [upd_ne ne]
            exact w4.sub b o q
          · obtain ⟨n, us, hu, ru⟩ := w4.tank a ea
            have ne : a ≠ L := fun z => tL (by rw [ea, z])
            exact ⟨n, us, by rw [upd_ne ne]; exact hu, ru⟩
        · have gg4 := gg.trans g4
          refine ⟨gg4.sub, fun a o q n => ?_, gg4.new, fun a o q => ?_⟩
          · rw [upd_ne (ne_of_none q hL)]
            exact gg4.keep a o q n
          · rw [upd_ne (ne_of_none q hL)]
            exact gg4.there a o q
    · exact hh.elim
  · have e : i = xs.length := by omega
    subst e
    rw [List.drop_length] at hh
    refine .inl ⟨src.st F' H' g'.sub wt'.sub, ?_⟩
    have sm : Same F' (upd F' L (.lst av)) := same_upd fL
    refine f (.ref L) H' (upd F' L (.lst av)) (.lst acc) T' ⟨fun b o q => ?_, fun a ea => ?_⟩ (g1.trans ⟨g'.sub.trans sm, g'.keep, fun a o q n => ?_, g'.there⟩) (.lst upd_same (ra.mono sm)) hh
    · by_cases hb : b = L
      · subst hb; rw [upd_same] at q; cases q; exact hLv
      · rw [upd_ne hb] at q; exact wt'.sub b o q
    · obtain ⟨n, us, hu, ru⟩ := wt'.tank a ea
      have ne : a ≠ L := fun z => tL (by rw [ea, z])
      exact ⟨by rw [upd_ne ne]; exact n, us, hu, ru.mono sm⟩
    · rw [upd_ne (ne_of_none q hL)]
      exact g'.new a o q n
theorem d_lc {elt iter : Expr} {ifs : List Expr} {scope : Scope} {fi : dI} {g : TG} {c : dC1} {tt : dT} {el : dE} (own : List (Str × Nat)) (hc : X.calm = true) (hN : X.N.Nodup) (hi : PId X tg iter fi) (cg : CG X.K g c (own.map (·.2)))
    (hg : ∀ (s : Shared) (H : Hp) (C : Addr) (cl : List (Str × Addr)) (fp : List Addr), PG (X.blk s H scope (compEnvC scope cl C X.env) fp) tg g)
    (ht : ∀ (s : Shared) (H : Hp) (C : Addr) (cl : List (Str × Addr)) (fp : List Addr), PTs (X.blk s H scope (compEnvC scope cl C X.env) fp) ifs (tDT X.K tt))
    (he : ∀ (s : Shared) (H : Hp) (C : Addr) (cl : List (Str × Addr)) (fp : List Addr), PEd (X.blk s H scope (compEnvC scope cl C X.env) fp) elt el)
    (ok : BlkOk X.N X.env.scope scope own := by exact blkOk_by (by decide +kernel)) (hs : ∀ x, foldedSetIterable iter X.env x = pure x := by intro _; rfl) :
    PEd X (.ListComp elt [⟨tg, iter, ifs, 0⟩] scope pos) (dLc (own.map (·.2)) fi c tt el) :=
  pe_imp (pe_lc (te := tD X.K el) hc hN hi ok hg ht he hs) fun _ _ _ h => lc_ok cg h
/-- y = [..] on one line -/
theorem s_setLc (i : Nat) {y : Str} {py spos : Pos} {elt iter : Expr} {ifs : List Expr} {scope : Scope} {fi : dI} {g : TG} {c : dC1} {tt : dT} {el : dE} (own : List (Str × Nat)) (hc : X.calm = true) (hN : X.N.Nodup) (hi : PId X tg iter fi) (cg : CG X.K g c (own.map (·.2)))
    (hg : ∀ (s : Shared) (H : Hp) (C : Addr) (cl : List (Str × Addr)) (fp : List Addr), PG (X.blk s H scope (compEnvC scope cl C X.env) fp) tg g)
    (ht : ∀ (s : Shared) (H : Hp) (C : Addr) (cl : List (Str × Addr)) (fp : List Addr), PTs (X.blk s H scope (compEnvC scope cl C X.env) fp) ifs (tDT X.K tt))
    (he : ∀ (s : Shared) (H : Hp) (C : Addr) (cl : List (Str × Addr)) (fp : List Addr), PEd (X.blk s H scope (compEnvC scope cl C X.env) fp) elt el)
    (hsw : swapsWith (.ListComp elt [⟨tg, iter, ifs, 0⟩] scope pos) (some (.Name y py)) spos.line X.env = pure true)
    (ok : BlkOk X.N X.env.scope scope own := by exact blkOk_by (by decide +kernel)) (hy : X.N[i]? = some y := by rfl) (hyl : X.env.scope.names.lookup y = some .local := by rfl) (hs : ∀ x, foldedSetIterable iter X.env x = pure x := by intro _; rfl) :
    PSd X (.Assign [.Name y py] (.ListComp elt [⟨tg, iter, ifs, 0⟩] scope pos) spos) (sAsg (dLc (own.map (·.2)) fi c tt el) (gN i)) := by
  refine ps_imp (ps_setLc (te := tD X.K el) hc hN hy hyl hsw hi ok hg ht he hs) fun E σ H h => ?_
  obtain ⟨ρ, T, t, F0, H0, F, k, w, h, fe⟩ := h
  exact lc_ok cg ⟨ρ, T, t, F, _, w.w, h, fun v H1 F1 d T1 w1 g1 r1 h1 => fe.nx _ _ _ _ _ ((w.grow g1 w1).put r1) g1.sub h1⟩
end
end L2.G

namespace L2.G
open PySem PySem.Spec PyProof.Rows

/-! the list that is changed in its place -/
section
variable {X : Cx} {e : Expr} {es : List Expr} {fe : dE} {fr : dA} {p pos : Pos} {f g : dS}
def isTank (ρ : En) (i : Nat) : Prop := match ρ[i]? with | some (some .tank) => True | _ => False
def dTix (i : Nat) (fe : dE) : dE := fun ρ T k => isTank ρ i ∧ fe ρ T fun d T1 => match d with | .int j => (match atI T1 j with | some x => k x T1 | none => False) | _ => False
theorem tank_slot {K : PySem.W.Frag} {ρ : En} {T : Tk} {t : Option Addr} {σ : L2.St} {F H : Hp} (w : Wd K ρ T t σ F H) {i : Nat} (h : isTank ρ i) : ∃ a, t = some a ∧ σ[i]? = some (some (.ref a)) := by
  unfold isTank at h
  split at h
  · rename_i e
    obtain ⟨v, h1, a, h2, rfl⟩ := w.slot i _ e
    exact ⟨a, h2, h1⟩
  · exact h.elim
theorem d_tix (i : Nat) {x : Str} {p1 : Pos} (he : PEd X e fe) (hs : PlainIx e := by exact fun _ _ => rfl) (hN : X.N[i]? = some x := by rfl) (hv : Vis X.env.scope x := by first | exact Or.inl rfl | exact Or.inr (Or.inl rfl) | exact Or.inr (Or.inr rfl))
    (hd : (x == ("__debug__" : Str)) = false := by decide) (hc : (x == ("__classdict__" : Str)) = false := by decide) : PEd X (.Subscript (.Name x p1) e pos) (dTix i fe) := by
  refine pe_imp (pe_ix ix_list (pe_var hN hv hd hc) he hs) fun σ H Q h => ?_
  obtain ⟨ρ, T, t, F, k, w, ⟨ht, h⟩, f⟩ := h
  obtain ⟨a, rfl, hσ⟩ := tank_slot w ht
  refine ⟨_, hσ, ρ, T, some a, F, _, w, h, fun v H1 F1 d T1 w1 g1 r1 h1 => ?_⟩
  split at h1
  · split at h1
    · rename_i e1
      cases r1
      obtain ⟨_, vs, hH, r⟩ := w1.tank a rfl
      obtain ⟨u, e2, ru⟩ := atI_rep r e1
      exact ⟨a, vs, _, u, rfl, rfl, .of hH, e2, (f.then g1).val w1 ru h1⟩
    · exact h1.elim
  · exact h1.elim
theorem Ws.tk {K : PySem.W.Frag} {ρ : En} {T T' : Tk} {σ : L2.St} {F0 H0 F H : Hp} {a : Addr} {ws : List V} (w : Ws K ρ T (some a) σ F0 H0 F H) (r : RepL K F T' ws) : Ws K ρ T' (some a) σ F0 H0 F (upd H a (.lst ws)) := by
  obtain ⟨hF, _⟩ := w.w.wt.tank a rfl
  refine ⟨⟨⟨fun b u q => ?_, fun b eb => ?_⟩, w.w.len, fun j s ej => ?_, w.w.apart⟩, ⟨w.g.sub, fun b o h0 n0 => ?_, w.g.new, fun b o h0 => ?_⟩, w.fr⟩
  · have ne : b ≠ a := fun z => by rw [z, hF] at q; cases q
    rw [upd_ne ne]
    exact w.w.wt.sub b u q
  · cases eb
    exact ⟨hF, ws, upd_same, r⟩
  · obtain ⟨u, h1, h2⟩ := w.w.slot j s ej
    refine ⟨u, h1, ?_⟩
    cases s with
    | val d => exact h2
    | tank => exact h2
    | own zs =>
      obtain ⟨m, us, rfl, f1, f2, f3, f4⟩ := h2
      have nm : m ≠ a := fun z => f4 (by rw [z])
      exact ⟨m, us, rfl, f1, by rw [upd_ne nm]; exact f2, f3, f4⟩
  · have ne : b ≠ a := fun z => n0 (by rw [z])
    rw [upd_ne ne]
    exact w.g.keep b o h0 n0
  · by_cases hb : b = a
    · subst hb; exact ⟨_, upd_same⟩
    · rw [upd_ne hb]; exact w.g.there b o h0
def gTs (i : Nat) (fe : dE) : dG := fun d ρ T k => isTank ρ i ∧ fe ρ T fun j T1 => match j with | .int j => (match ixN T1.length j with | some m => k ρ (T1.set m d) | none => False) | _ => False
theorem g_tset (i : Nat) {x : Str} {p1 : Pos} (he : PEd X e fe) (hN : X.N[i]? = some x := by rfl) (hv : Vis X.env.scope x := by first | exact Or.inl rfl | exact Or.inr (Or.inl rfl) | exact Or.inr (Or.inr rfl))
    (hd : (x == ("__debug__" : Str)) = false := by decide) (hc : (x == ("__classdict__" : Str)) = false := by decide) (ha : ∀ v, assign (.Subscript (.Name x p1) e pos) X.env v = (do
      let ov ← holding [v] (eval (.Name x p1) X.env); let iv ← holding [v, ov] (eval e X.env); standAt pos; holding [v, ov, iv] (setItem ov iv v); release [v, ov, iv] []) := by intro _; rfl) : PGd X (.Subscript (.Name x p1) e pos) (gTs i fe) := by
  refine pg_imp (pg_sub (pe_var hN hv hd hc) he set_list ha) fun v σ H Q h => ?_
  obtain ⟨ρ, T, t, F0, H0, F, d, k, w, r, ⟨ht, h⟩, f⟩ := h
  obtain ⟨a, rfl, hσ⟩ := tank_slot w.w ht
  refine ⟨_, hσ, ρ, T, some a, F, _, w.w, h, fun u H1 F1 j T1 w1 g1 r1 h1 => ?_⟩
  split at h1
  · split at h1
    · rename_i e1
      cases r1
      obtain ⟨_, vs, hH, rt⟩ := w1.tank a rfl
      rw [rt.len] at e1
      exact ⟨a, vs, _, _, rfl, rfl, hH, e1, f _ _ _ _ _ ((w.grow g1 w1).tk (rt.set (r.mono g1.sub) _)) g1.sub h1⟩
    · exact h1.elim
  · exact h1.elim

/-! a def that ends by return [..]: the list is new -/
def FinO (K : PySem.W.Frag) (t : Option Addr) (F H : Hp) (k : KD) (n : VK) : Prop := ∀ l lv H' F' xs T', Wt K T' t F' H' → Grow t F H F' H' → H l = none → F' l = none → H' l = some (.lst lv) → RepL K F' xs lv → k (.lst xs) T' → n (.ref l) H'
def tDSo (K : PySem.W.Frag) (f : En → Tk → KD → Prop) : TS := fun E σ H => ∃ ρ T t F0 H0 F k, Ws K ρ T t σ F0 H0 F H ∧ f ρ T k ∧ FinO K t F0 H0 k E.rt
abbrev PSo (X : Cx) (st : List Stmt) (f : En → Tk → KD → Prop) : Prop := PSs X st (tDSo X.K f)
def no0 : dEnds := { nx := fun _ _ => False, rt := fun _ _ => False, bk := fun _ _ => False, ct := fun _ _ => False }
theorem so_cons {st : Stmt} {rest : List Stmt} {f : dS} {g : En → Tk → KD → Prop} (h1 : PSd X st f) (h2 : PSo X rest g) : PSo X (st :: rest) (fun ρ T k => f { no0 with nx := fun ρ1 T1 => g ρ1 T1 k } ρ T) := by
  refine pss_imp (pss_cons h1 h2) fun E σ H h => ?_
  obtain ⟨ρ, T, t, F0, H0, F, k, w, h, fe⟩ := h
  exact ⟨ρ, T, t, F0, H0, F, _, w, h, ⟨fun ρ' T' σ' F' H' w' _ h' => ⟨ρ', T', t, F0, H0, F', k, w', h', fe⟩, fun _ _ _ _ _ _ _ _ q => q.elim, fun _ _ _ _ _ _ _ q => q.elim, fun _ _ _ _ _ _ _ q => q.elim⟩⟩
theorem so_ret {lp : Pos} (ha : PAd X es fr) : PSo X [.Return (some (.List es lp)) pos] (fun ρ T k => fr ρ T fun as T1 => match vals? as with | some ds => ds.length ≤ 1000000 ∧ k (.lst ds) T1 | none => False) := by
  refine pss_imp (pss_one (ps_ret (pe_lst ha))) fun E σ H h => ?_
  obtain ⟨ρ, T, t, F0, H0, F, k, w, h, fe⟩ := h
  refine ⟨ρ, T, t, F, _, w.w, h, fun vs H1 F1 as T1 w1 g1 r1 h1 => ?_⟩
  split at h1
  · rename_i ds e
    have r := r1.vals e
    refine ⟨by rw [← r.len]; exact small_line h1.1, fun l hl => ?_⟩
    have g2 := (w.g.trans g1).trans (grow_own (o := .lst vs) w1.sub hl)
    refine fe l vs _ F1 ds T1 (wt_own w1 hl) g2 ?_ (w1.sub.free hl) upd_same r h1.2
    cases q : H0 l with
    | none => rfl
    | some o =>
      obtain ⟨o', h'⟩ := (w.g.trans g1).there l o q
      rw [hl] at h'
      cases h'
  · exact h1.elim
def spO (K : PySem.W.Frag) (n : Nat) (sem : Sem) : Sp := fun vs H Q _ => vs.length = n ∧ ∃ F t T as k, ArgL K t F as vs ∧ Wt K T t F H ∧ sem as T k ∧ FinO K t F H k Q
def OkO (P : Program) (w : World) (K : PySem.W.Frag) (mg : Str → Option Value) (base : Heap) (n : Nat) (x : Str) (ps : List Str) (sem : Sem) : Prop :=
  ∃ f fd, mg x = some (.ref f) ∧ PySem.W.keepIn K (.ref f) = true ∧ Binds K fd ps [] ∧ GFn P w K mg base CX0 n f fd ps (spO K ps.length sem)
end
def semO (N : List Str) (b : En → Tk → KD → Prop) : Sem := fun as T k => b (start' N as) T k
theorem ok_defO {P : Program} {w : World} {K : PySem.W.Frag} {mg : Str → Option Value} {base : Heap} {n : Nat} {x : Str} {st : Stmt} {N ps : List Str} {b : En → Tk → KD → Prop} (h : Df K mg x st) (S : FnScope N ps (defScope st))
    (hb1 : ∀ (kV doc pm : Value) (an : Option Addr) (cdv ct : Value) (us : List Value), us.length = ps.length → bindArgs (PySem.W.fnOf x x (defArgs st) (defBody st) (defScope st) .none kV doc pm an cdv ct) ⟨us, []⟩ = pure (ps.zip us))
    (body : ∀ (f : Addr) (cdv : Value) (A : Around) (fs : List Env) (s : Shared) (H : Hp) (E : XK), Room n (A.deeper (envOfC x (defScope st) s.heap.objs.size f cdv)) → A.guards = some [] → PSo (CxD P w K mg base N x st f cdv A fs s H E) (defBody st) b) :
    OkO P w K mg base (n + 1) x ps (semO N b) := by
  obtain ⟨f, fd, Fn, hm⟩ := h
  refine ⟨f, fd, hm, Fn.kp, Fn.binds hb1, ?_⟩
  obtain ⟨oc, od, kV, doc, pm, an, cdv, ct, osl, rfl, lk, hcd⟩ := Fn.ex
  refine gfn_body lk hcd S (fun vs H Q E q => q.1) fun A fs s H vs Q E hr hgd hsp => ?_
  obtain ⟨hl, F, t, T, as, k, ar, wt, h, fin⟩ := hsp
  refine ⟨_, (body f cdv A fs s H E hr hgd).nox, start' N as, T, t, F, H, F, _, ⟨wd_start ar wt, Grow.refl _ _ _, fun i xs l e1 _ => ?_⟩, h, fin⟩
  exact absurd rfl ((argGet (H := H) ar i _ (startGet e1)).2 xs)
theorem OkO.mono {P : Program} {w : World} {K : PySem.W.Frag} {mg : Str → Option Value} {base : Heap} {m n : Nat} {x : Str} {ps : List Str} {sem : Sem} (h : OkO P w K mg base m x ps sem) (l : m ≤ n) : OkO P w K mg base n x ps sem :=
  let ⟨f, fd, h1, h2, h3, h4⟩ := h; ⟨f, fd, h1, h2, h3, h4.mono l⟩
section
variable {X : Cx} {e : Expr} {es : List Expr} {fr : dA} {p pos q pos2 : Pos} {x y : Str} {n m : Nat} {ps qs : List Str} {sem so : Sem}
/-- f(new(..)): the new list is f's own -/
def dCallT (m : Nat) (sem so : Sem) (fr : dA) : dE := fun ρ T k => fr ρ T fun as T1 => as.length = m ∧ so as T1 fun d T2 => match d with | .lst xs => sem [.tank] xs fun r _ => k r T2 | _ => False
theorem d_callT (G : Ok X.prog X.w X.K X.mg X.base n x ps sem) (O : OkO X.prog X.w X.K X.mg X.base m y qs so) (hr : Room n X.A) (hr2 : Room m X.A) (hgd : X.A.guards = some []) (ha : PAd X (e :: es) fr) (h1 : ps.length = 1) (hg : Gl X x := by rfl) (hg2 : Gl X y := by rfl)
    (hd : (x == ("__debug__" : Str)) = false := by decide) (hd2 : (y == ("__debug__" : Str)) = false := by decide) (he : starEach (e :: es) X.env = (false, eval e X.env) :: starEach es X.env := by rfl) (hp : (backTo pos2 (starEach es X.env)).any (·.1) = false := by rfl)
    (he2 : starEach [.Call (.Name y q) (e :: es) [] pos2] X.env = (false, eval (.Call (.Name y q) (e :: es) [] pos2) X.env) :: starEach [] X.env := by rfl) (hp2 : (backTo pos (starEach [] X.env)).any (·.1) = false := by rfl) :
    PEd X (.Call (.Name x p) [.Call (.Name y q) (e :: es) [] pos2] [] pos) (dCallT qs.length sem so fr) := by
  obtain ⟨f, fd, a1, a2, a3, _, a5, _⟩ := G
  obtain ⟨f', fd', b1, b2, b3, b5⟩ := O
  refine pe_imp (g_call (E := E0) a5 hr hgd hg a1 a2 a3 pass0 (pa_cons (g_call (E := E0) b5 hr2 hgd hg2 b1 b2 b3 pass0 ha hd2 he hp) pa_nil he2) hd he2 hp2) fun σ H Q h => ?_
  obtain ⟨ρ, T, t, F, k, w, h, fin⟩ := h
  refine ⟨ρ, T, t, F, _, w, h, fun vs H1 F1 as T1 w1 g1 r1 h1' => ?_⟩
  show spO X.K qs.length so (vs ++ []) H1 _ E0
  rw [List.append_nil]
  refine ⟨by rw [← r1.len]; exact h1'.1, F1, t, T1, as, _, r1, w1, h1'.2, fun l lv H2 F2 xs T2 w2 g2 hl hF2 hH2 rx h2 => ?_⟩
  refine ⟨by rw [h1]; rfl, F2, some l, xs, [.tank], _, .tank rfl .nil, ⟨w2.sub, fun a ea => ?_⟩, h2, fun v H3 F3 d T3 w3 g3 r3 h3 => ?_⟩
  · cases ea
    exact ⟨hF2, lv, hH2, rx⟩
  · have keep : ∀ a o, H1 a = some o → t ≠ some a → H3 a = some o := fun a o q n => g3.keep a o (g2.keep a o q n) (fun z => by cases z; rw [hl] at q; cases q)
    have tk : ∀ a, t = some a → F3 a = none ∧ ∃ vs, H3 a = some (.lst vs) ∧ RepL X.K F3 T2 vs := fun a ea => by
      obtain ⟨n, us, hu, ru⟩ := w2.tank a ea
      obtain ⟨_, us1, hu1, _⟩ := w1.tank a ea
      have ne : some l ≠ some a := fun z => by cases z; rw [hl] at hu1; cases hu1
      exact ⟨g3.new _ _ hu n, us, g3.keep _ _ hu ne, ru.mono g3.sub⟩
    refine fin v H3 F3 d T2 ⟨w3.sub, tk⟩ (g1.trans ⟨g2.sub.trans g3.sub, keep, fun a o q n => ?_, fun a o q => ?_⟩) r3 h3
    · obtain ⟨o', q'⟩ := g2.there a o q
      exact g3.new a o' q' (g2.new a o q n)
    · obtain ⟨o', q'⟩ := g2.there a o q
      exact g3.there a o' q'
end

/-! the end: the law is called -/
theorem g_law {P : Program} {w : World} {K : PySem.W.Frag} {mg mb : Str → Option Value} {CX : CXT} {k : Nat} {fa a : Addr} {fd : FuncData} {x : Str} {sp : Sp} {s1 : Shared} {vs : List Value} {ns : List Int} (KX : K.In s1.heap) (hns : s1.heap.Ns mainGlobals mg)
    (hb : s1.heap.Ns builtinsNs mb) (hbb : ∀ x : Str, x ≠ "__name__" → mb x = bootBuiltins x) (hlim : s1.heap.NoLimit) (hg : s1.gens = #[]) (ha : s1.heap.get? a = some { cls := .type "list", data := .seq vs.toArray }) (hi : IntsAre vs ns) (hl : ns.length ≤ sizeLine)
    (hr : Room k callerA) (G : ∀ base : Heap, K.In base → base.Ns mainGlobals mg → GFn P w K mg base CX k fa fd [x] sp) (hbind : ∀ u : Value, BindsTo s1 fd ⟨[u], []⟩ [(x, u)])
    (hsp : ∀ H : Hp, Only H → SqL K H a (ns.map V.int) → sp [.ref a] H (fun v _ => v = .bl true) fun _ _ _ => False) (hCX : ∀ H e s', CX [] H s1 (fun _ _ _ => False) e s' → False) :
    codeAny (model P w) callerA (.call (.ref fa) ⟨[.ref a], []⟩) (fun r s' => r = .ok (.ret (.bool true)) ∧ OldK s1.heap s'.heap ∧ s'.os = s1.os ∧ AllBare s'.gens) s1 := by
  have rv := vals_ints hi
  have lenV := hi.length
  have core : ∀ H : Hp, Only H → SqL K H a (ns.map V.int) → HOk P w H s1.heap → (∀ b, H b ≠ none → b = a) → (H a ≠ none → K.lookup a = none) →
      codeAny (model P w) callerA (.call (.ref fa) ⟨[.ref a], []⟩) (fun r s' => r = .ok (.ret (.bool true)) ∧ OldK s1.heap s'.heap ∧ s'.os = s1.os ∧ AllBare s'.gens) s1 := by
    intro H hO hS hok hA hK
    have free : ∀ {b : Addr}, b ≠ a → H b = none := fun {b} nb => Classical.byContradiction fun z => nb (hA b z)
    have dicts : ∀ {b : Addr} {o : Obj} {es : Array DictEntry} {ep : Nat}, s1.heap.get? b = some o → o.data = .dict es ep → H b = none := fun {b o es ep} e d => free fun z => by
      subst z
      cases ha.symm.trans e
      exact nomatch (show Data.seq vs.toArray _ = Data.dict es ep from d)
    have ns' : ∀ {b : Addr} {m : Str → Option Value}, s1.heap.Ns b m → (hidT s1.heap H).Ns b m := fun {b m} ⟨o, es, ep, e, d, r⟩ => ⟨o, es, ep, hidT_get e (dicts e d), d, r⟩
    have inB : K.In (hidT s1.heap H) := fun b o e => hidT_get (KX b o e) (by
      by_cases z : H b = none
      · exact z
      · have hb := hA b z
        subst hb
        have q := hK z
        rw [e] at q
        cases q)
    have hM : Mod K mg (hidT s1.heap H) := ⟨inB, ns' hns, ⟨mb, ns' hb, hbb⟩, by obtain ⟨mc, h1, h2⟩ := hlim; exact ⟨mc, ns' h1, h2⟩⟩
    have e0 : Env0 P w K mg (hidT s1.heap H) callerA [] s1 H := ⟨rfl, hM, fun b o e => of_hidT e, Nat.le_of_eq (hidT_size _ _), trivial, fun b z => (by cases z), hok, .of_eq hg⟩
    apply codeAny_mono ((G _ inB (ns' hns)).go callerA [] s1 H ⟨[.ref a], []⟩ [.ref a] [.ref a] _ _ ⟨hr, rfl⟩ e0 (hbind (.ref a)) (.cons rfl .nil) (hsp H hO hS))
    intro r s' h
    match r, h with
    | .error e, h => exact (hCX H e s' h).elim
    | .ok (.ret u), h =>
      obtain ⟨v, H', os, bare, un, hok', r', q⟩ := h
      obtain rfl : v = V.bl true := q
      obtain rfl : u = Value.bool true := r'
      refine ⟨rfl, OldK.of_keep fun b o e => ?_, os, bare⟩
      cases q : H b with
      | none => exact un.keep b o e q (by simp [frs]) (by simp)
      | some u =>
        rcases hO b with z | ⟨ob, xs, z⟩
        · cases q.symm.trans z
        · have k1 := (hok b _ z).1
          have k2 := (hok' b _ (un.frzs b ob _ z)).1
          cases e.symm.trans k1
          exact k2
  cases hk : K.lookup a with
  | some o =>
    cases ha.symm.trans (KX a o hk)
    refine core (fun _ => none) (fun _ => .inl rfl) (.inr ⟨_, vs.toArray, _, hk, rfl, rfl, rfl, ?_, by simpa using rv⟩) (fun _ _ z => nomatch (show (none : Option HO) = some _ from z)) (fun _ z => absurd rfl z) fun z => absurd rfl z
    rw [List.size_toArray, lenV]
    exact hl
  | none =>
    refine core (fun b => if b = a then some (.frz { cls := .type "list", data := .seq vs.toArray } (.lst (ns.map V.int))) else none) (fun b => ?_) ?_ (fun b u z => ?_) (fun b z => ?_) fun _ => hk
    · by_cases nb : b = a
      · right; exact ⟨_, _, if_pos nb⟩
      · left; exact if_neg nb
    · left; right; exact ⟨{ cls := .type "list", data := .seq vs.toArray }, if_pos rfl⟩
    · by_cases nb : b = a
      · cases (if_pos nb).symm.trans z
        subst nb
        exact ⟨ha, by rw [List.length_map]; exact hl, vs, _, rv, ha⟩
      · cases (if_neg nb).symm.trans z
    · by_cases nb : b = a
      · exact nb
      · exact absurd (if_neg nb) z
/-- the script as data -/
def scrD (ns : List Int) : D := .scr (ns.map D.int)
theorem scr_rep {K : PySem.W.Frag} {F : Hp} : ∀ ns : List Int, RepL K F (ns.map D.int) (ns.map V.int)
  | [] => .nil
  | n :: ns => .cons (.int n) (scr_rep ns)
end L2.G

namespace L2.G
open PySem PySem.Spec PyProof.Rows

section
variable {X : Cx} {tg a b c e : Expr} {fa fb fc fe : dE} {fr : dA} {p pos : Pos}
/-! a list or a tuple that is walked -/
def iS (fe : dE) : dI := fun ρ T k => fe ρ T fun d T1 => match d with | .lst xs => xs.length ≤ 1000000 ∧ k xs T1 | .tup xs => xs.length ≤ 1000000 ∧ k xs T1 | _ => False
theorem i_seq (he : PEd X e fe) : PId X tg e (iS fe) := by
  constructor
  rintro pins s σ H R I ⟨ρ, T, t, F, k, w, h, f⟩
  have key := he.run pins s σ H (fun x H1 => (∃ a xs, x = .ref a ∧ SqL X.K H1 a xs ∧ R (Itl X.K a) H1) ∨ ∃ a xs, x = .ref a ∧ SqT X.K H1 a xs ∧ R (Itt X.K a) H1) I ⟨ρ, T, t, F, _, w, h, fun v H1 F1 d T1 w1 g1 r1 h1 => by
    split at h1
    · obtain ⟨a, vs, rfl, hq, hr⟩ := rep_lst r1
      exact .inl ⟨a, vs, rfl, .of (w1.sub _ _ hq), f _ _ _ _ _ w1 g1 (src_list hq hr) h1.1 h1.2⟩
    · obtain ⟨a, vs, rfl, hq, hr⟩ := rep_tup r1
      exact .inr ⟨a, vs, rfl, same_t w1.sub hq, f _ _ _ _ _ w1 g1 (src_tup hq hr) h1.1 h1.2⟩
    · exact h1.elim⟩
  refine thn key fun v s1 ⟨x, H1, I1, r1, q1⟩ => ?_
  have fr : ∀ b ∈ [s1.heap.objs.size], FpOk X pins H1 b := fun b hb => by
    rw [List.mem_singleton.mp hb]
    exact I1.fpOk (Nat.le_refl _) (I1.hok.fresh (Nat.le_refl _))
  rcases q1 with ⟨a, xs, rfl, hq, q⟩ | ⟨a, xs, rfl, hq, q⟩
  · obtain rfl : v = Value.ref a := r1
    obtain ⟨its, _, pl, _⟩ := I1.list hq
    apply wpAny_pyIter_list pl.isList
    exact ⟨s1.heap.objs.size, _, _, _, H1, rfl, I1.kept (t' := s1.toks) fun b o z => Heap.get?_push_of_some _ z, turn_list a _, ⟨_, Heap.get?_push_size _ rfl, rfl, rfl⟩, fr, q⟩
  · obtain rfl : v = Value.ref a := r1
    obtain ⟨its, _, pl, _⟩ := I1.tuple hq
    apply wpAny_pyIter_tuple pl
    exact ⟨s1.heap.objs.size, _, _, _, H1, rfl, I1.kept (t' := s1.toks) fun b o z => Heap.get?_push_of_some _ z, turn_tuple a _, ⟨_, Heap.get?_push_size _ rfl, rfl, rfl⟩, fr, q⟩

/-! +, *, ==, != of any kind -/
def oAdd : Op2 := fun x y k => match x, y with
  | .int i, .int j => k (.int (i + j))
  | .lst xs, .lst ys => xs.length + ys.length ≤ 1000000 ∧ k (.lst (xs ++ ys))
  | .tup xs, .tup ys => xs.length + ys.length ≤ 1000000 ∧ k (.tup (xs ++ ys))
  | .str s, .str u => s.length + u.length ≤ 1000000 ∧ k (.str (s ++ u))
  | _, _ => False
theorem oAdd_ok {K : PySem.W.Frag} : OpS K (fun x y H Q => (rI0 (fun i j => .int (i + j))) x y H Q ∨ ((rCat x y H Q ∨ rCatA K x y H Q) ∨ ∃ i j, x = .str i ∧ y = .str j ∧ i.length + j.length ≤ sizeLine ∧ Q (.str (i ++ j)) H)) oAdd := by
  intro t F H T x y v w k Q wt r1 r2 q f
  unfold oAdd at q
  split at q
  · exact .inl (oI_ok wt r1 r2 q f)
  · exact .inr (oCat_ok wt r1 r2 q f)
  · exact .inr (oCat_ok wt r1 r2 q f)
  · exact .inr (oCat_ok wt r1 r2 q f)
  · exact q.elim
def repD (xs : List D) (n : Nat) : List D := (List.replicate n xs).flatten
theorem rep_flat {K : PySem.W.Frag} {F : Hp} {ds : List D} {vs : List V} (r : RepL K F ds vs) : ∀ n : Nat, RepL K F (repD ds n) (List.replicate n vs).flatten
  | 0 => .nil
  | n + 1 => by
    show RepL K F ((List.replicate (n + 1) ds).flatten) _
    rw [List.replicate_succ, List.flatten_cons, List.replicate_succ, List.flatten_cons]
    exact r.app (rep_flat r n)
def oMul : Op2 := fun x y k => match x, y with
  | .int i, .int j => MulOk i j ∧ k (.int (i * j))
  | .lst xs, .int n => (-(2 ^ 63) ≤ n ∧ n < 2 ^ 63 ∧ xs.length * n.toNat ≤ 1000000) ∧ k (.lst (repD xs n.toNat))
  | _, _ => False
theorem oMul_ok {K : PySem.W.Frag} : OpS K (fun x y H Q => (rI MulOk (fun i j => .int (i * j))) x y H Q ∨ rRep x y H Q) oMul := by
  intro t F H T x y v w k Q wt r1 r2 q f
  unfold oMul at q
  split at q
  · exact .inl (oIC_ok wt r1 r2 q f)
  · obtain ⟨a, vs, rfl, h1, r1⟩ := rep_lst r1
    cases r2
    exact .inr ⟨a, _, vs, rfl, rfl, wt.sub _ _ h1, q.1.1, q.1.2.1, by rw [← r1.len]; exact small_line q.1.2.2, fun p hp => f.lst wt (rep_flat r1 _) hp q.2⟩
  · exact q.elim
theorem d_times (ha : PEd X a fa) (hb : PEd X b fb) : PEd X (.BinOp a .Mult b pos) (dOp oMul fa fb) := d_op (op_mulQ.or op_rep) oMul_ok ha hb
def oEqU : Op2 := fun x y k => match x, y with
  | .int i, .int j => k (.bl (decide (i = j)))
  | .str i, .str j => k (.bl (decide (i = j)))
  | .bl i, .bl j => k (.bl (decide (i = j)))
  | x, y => x.eqOk ∧ y.eqOk ∧ k (.bl (eqD x y))
def oNeU : Op2 := fun x y k => match x, y with
  | .int i, .int j => k (.bl (!decide (i = j)))
  | .str i, .str j => k (.bl (!decide (i = j)))
  | .bl i, .bl j => k (.bl (!decide (i = j)))
  | x, y => x.eqOk ∧ y.eqOk ∧ k (.bl (!eqD x y))
theorem oEqU_ok {K : PySem.W.Frag} : OpS K (fun x y H Q => rEq x y H Q ∨ rEqD K x y H Q) oEqU := by
  intro t F H T x y v w k Q wt r1 r2 q f
  unfold oEqU at q
  split at q
  · exact .inl (oEqI_ok wt r1 r2 q f)
  · exact .inl (oEqI_ok wt r1 r2 q f)
  · exact .inl (oEqI_ok wt r1 r2 q f)
  · exact .inr (oEq_ok wt r1 r2 q f)
theorem oNeU_ok {K : PySem.W.Frag} : OpS K (fun x y H Q => rNe x y H Q ∨ rNeD K x y H Q) oNeU := by
  intro t F H T x y v w k Q wt r1 r2 q f
  unfold oNeU at q
  split at q
  · exact .inl (oNeI_ok wt r1 r2 q f)
  · exact .inl (oNeI_ok wt r1 r2 q f)
  · exact .inl (oNeI_ok wt r1 r2 q f)
  · exact .inr (oNe_ok wt r1 r2 q f)
theorem room66 {n : Nat} {A : Around} (r : Room n A) : A.units + 66 < cLine := by have := r.un; omega
variable {n : Nat}
/-- a constant of the module -/
def GC (K : PySem.W.Frag) (mg : Str → Option Value) (x : Str) (d : D) : Prop := ∃ v u, mg x = some u ∧ RelV v u ∧ ∀ F, Rep K F d v
theorem d_gc {x : Str} {d : D} (h : GC X.K X.mg x d) (hg : Gl X x := by rfl) (hd : (x == ("__debug__" : Str)) = false := by decide) : PEd X (.Name x pos) (dC d) := by
  obtain ⟨v, u, h1, h2, h3⟩ := h
  exact d_glob hg h1 h2 h3 hd
mutual
inductive GRep (K : PySem.W.Frag) : D → Value → Prop
  | int (i : Int) (t : Tok) : GRep K (.int i) (.int i t)
  | str (i : Str) (t : Tok) : GRep K (.str i) (.str i t)
  | bl (b : Bool) : GRep K (.bl b) (.bool b)
  | non : GRep K .non .none
  | tup {a : Addr} {dd : Option Addr} {its : Array Value} {n : Nat} {sl : Array (Option Value)} {ds : List D} : K.lookup a = some ⟨.type "tuple", dd, .seq its n, sl⟩ → GRepL K ds its.toList → its.size ≤ 1000000 → GRep K (.tup ds) (.ref a)
inductive GRepL (K : PySem.W.Frag) : List D → List Value → Prop
  | nil : GRepL K [] []
  | cons {d : D} {u : Value} {ds : List D} {us : List Value} : GRep K d u → GRepL K ds us → GRepL K (d :: ds) (u :: us)
end
mutual
theorem GRep.rep {K : PySem.W.Frag} : ∀ {d : D} {u : Value}, GRep K d u → ∃ v, RelV v u ∧ ∀ F, Rep K F d v
  | _, _, .int i t => ⟨.int i, ⟨t, rfl⟩, fun _ => .int i⟩
  | _, _, .str i t => ⟨.str i, ⟨t, rfl⟩, fun _ => .str i⟩
  | _, _, .bl b => ⟨.bl b, rfl, fun _ => .bl b⟩
  | _, _, .non => ⟨.non, rfl, fun _ => .non⟩
  | _, _, .tup (a := a) h q z => by
    obtain ⟨vs, h1, h2⟩ := GRepL.rep q
    exact ⟨.ref a, rfl, fun F => .tup (.inr ⟨_, _, _, h, rfl, rfl, small_line z, h1⟩) (h2 F)⟩
theorem GRepL.rep {K : PySem.W.Frag} : ∀ {ds : List D} {us : List Value}, GRepL K ds us → ∃ vs, Vals vs us ∧ ∀ F, RepL K F ds vs
  | _, _, .nil => ⟨[], .nil, fun _ => .nil⟩
  | _, _, .cons h q => by
    obtain ⟨v, h1, h2⟩ := GRep.rep h
    obtain ⟨vs, h3, h4⟩ := GRepL.rep q
    exact ⟨v :: vs, .cons h1 h3, fun F => .cons (h2 F) (h4 F)⟩
end
theorem gc_of {K : PySem.W.Frag} {mg : Str → Option Value} {h : Heap} {x : Str} {d : D} {u : Value} (X : K.In h) (G : h.Ns mainGlobals mg) (a : PySem.W.nsIn K mainGlobals x = some (some u)) (r : GRep K d u) : GC K mg x d := by
  obtain ⟨v, h1, h2⟩ := r.rep
  exact ⟨v, u, PySem.W.mg_of X G a, h1, h2⟩
/-- three at once -/
def sPar3 (i j l : Nat) (fr : dA) : dS := fun k ρ T => fr ρ T fun as T1 => match as with | [.val d, .val e, .val f] => k.nx (((ρ.set i (some (.val d))).set j (some (.val e))).set l (some (.val f))) T1 | _ => False
theorem s_par3 (i j l : Nat) {x y z : Str} {px py pz pt : Pos} {kt k2 pt2} (hc : X.calm = true) (hN : X.N.Nodup) (ha : PAd X [a, b, c] fr) (hw : swappedStores [.Tuple [.Name x px, .Name y py, .Name z pz] kt pt] (.Tuple [a, b, c] k2 pt2) X.env = pure (some [x, y, z]) := by rfl)
    (hi : X.N[i]? = some x := by rfl) (hj : X.N[j]? = some y := by rfl) (hl : X.N[l]? = some z := by rfl) (hij : i ≠ j := by decide) (hil : i ≠ l := by decide) (hjl : j ≠ l := by decide)
    (hx : X.env.scope.names.lookup x = some .local := by rfl) (hy : X.env.scope.names.lookup y = some .local := by rfl) (hz : X.env.scope.names.lookup z = some .local := by rfl)
    (hs : swapsWithSole [.Tuple [.Name x px, .Name y py, .Name z pz] kt pt] (.Tuple [a, b, c] k2 pt2) pos.line X.env = pure false := by rfl) :
    PSd X (.Assign [.Tuple [.Name x px, .Name y py, .Name z pz] kt pt] (.Tuple [a, b, c] k2 pt2) pos) (sPar3 i j l fr) := by
  refine ps_imp (ps_par3 hc hN hi hj hl hij hil hjl hx hy hz ha hw hs) fun E σ H h => ?_
  obtain ⟨ρ, T, t, F0, H0, F, k, w, h, fe⟩ := h
  refine ⟨ρ, T, t, F, _, w.w, h, fun vs H1 F1 as T1 w1 g1 r1 h1 => ?_⟩
  split at h1
  · cases r1 with
    | val r1 rr =>
      cases rr with
      | val r2 rr =>
        cases rr with
        | val r3 rr =>
          cases rr
          exact ⟨_, _, _, rfl, fe.nx _ _ _ _ _ ((((w.grow g1 w1).put r1).put r2).put r3) g1.sub h1⟩
  · exact h1.elim
end
end L2.G

namespace L2.G
open PySem PySem.Spec PyProof.Rows
theorem ixN_lit (l n : Nat) : ixN l (no_index (OfNat.ofNat n) : Int) = if n < l then some n else none := by
  have e : (no_index (OfNat.ofNat n) : Int) = (n : Int) := rfl
  rw [e]
  unfold ixN
  rw [if_pos (Int.natCast_nonneg n)]
  by_cases h : n < l
  · rw [if_pos h, if_pos (by omega)]; rfl
  · rw [if_neg h, if_neg (by omega)]
theorem atI_lit {α : Type} (xs : List α) (n : Nat) : atI xs (no_index (OfNat.ofNat n) : Int) = xs[n]? := by
  unfold atI
  rw [ixN_lit]
  by_cases h : n < xs.length
  · rw [if_pos h]; rfl
  · rw [if_neg h]; exact (List.getElem?_eq_none (by omega)).symm
theorem atI_nat' {α : Type} (xs : List α) (n : Nat) : atI xs (n : Int) = xs[n]? := atI_lit xs n
theorem atI_m1 {α : Type} (xs : List α) : atI xs (-1) = xs[xs.length - 1]? := by
  unfold atI ixN
  rw [if_neg (by decide)]
  by_cases h : xs = []
  · subst h; rfl
  · have : 0 < xs.length := List.length_pos_iff.mpr h
    rw [if_pos (by omega)]
    show xs[((-1 : Int) + xs.length).toNat]? = _
    congr 1
    omega
/-- sizes -/
def Sz (n : Nat) (i : Int) : Prop := i.natAbs < 2 ^ n
theorem Sz.mono {m n : Nat} {i : Int} (h : Sz m i) (l : m ≤ n) : Sz n i := Nat.lt_of_lt_of_le h (Nat.pow_le_pow_right (by decide) l)
theorem Sz.add {m n : Nat} {i j : Int} (h : Sz m i) (q : Sz n j) : Sz (max m n + 1) (i + j) := by
  have h1 := h.mono (Nat.le_max_left m n)
  have h2 := q.mono (Nat.le_max_right m n)
  unfold Sz at *
  rw [Nat.pow_succ]
  omega
theorem Sz.sub {m n : Nat} {i j : Int} (h : Sz m i) (q : Sz n j) : Sz (max m n + 1) (i - j) := by
  have h1 := h.mono (Nat.le_max_left m n)
  have h2 := q.mono (Nat.le_max_right m n)
  unfold Sz at *
  rw [Nat.pow_succ]
  omega
theorem Sz.neg {m : Nat} {i : Int} (h : Sz m i) : Sz m (-i) := by unfold Sz at *; omega
theorem Sz.mul {m n : Nat} {i j : Int} (h : Sz m i) (q : Sz n j) : Sz (m + n) (i * j) := wide_lt h q
theorem Sz.mulOk {m n : Nat} {i j : Int} (h : Sz m i) (q : Sz n j) (l : m ≤ 400000) (l' : n ≤ 400000) : MulOk i j := .inr ⟨h.mono l, q.mono l'⟩
theorem Sz.divOk {n : Nat} {i j : Int} (q : Sz n j) (l : n ≤ 9000) (h : 0 < j) : DivOk i j := ⟨h, q.mono l⟩
theorem Sz.small {i : Int} (h : i.natAbs < 2 ^ 64) : Sz 64 i := h
theorem sIx_lit (n d k : Nat) : HT.sIx n d (some (no_index (OfNat.ofNat k) : Int)) = min k n := HT.sIx_nat n d k
theorem cut_none {xs : List D} : cutD xs none none = xs := by
  unfold cutD
  simp [HT.sIx_none]
theorem cut_to {xs : List D} (k : Nat) : cutD xs none (some (no_index (OfNat.ofNat k) : Int)) = xs.take k := by
  unfold cutD
  rw [sIx_lit, HT.sIx_none, List.drop_zero, Nat.sub_zero]
  by_cases h : k ≤ xs.length
  · rw [Nat.min_eq_left h]
  · rw [Nat.min_eq_right (by omega), List.take_length, List.take_of_length_le (by omega)]
theorem cut_from {xs : List D} (k : Nat) : cutD xs (some (no_index (OfNat.ofNat k) : Int)) none = xs.drop k := by
  unfold cutD
  rw [sIx_lit, HT.sIx_none]
  by_cases h : k ≤ xs.length
  · rw [Nat.min_eq_left h, List.take_of_length_le (by simp)]
  · rw [Nat.min_eq_right (by omega), Nat.sub_self, List.take_zero, List.drop_eq_nil_of_le (by omega)]
theorem cut_fromto {xs : List D} (j k : Nat) : cutD xs (some (no_index (OfNat.ofNat j) : Int)) (some (no_index (OfNat.ofNat k) : Int)) = (xs.take k).drop j := by
  unfold cutD
  rw [sIx_lit, sIx_lit, List.drop_take]
  by_cases h : j ≤ xs.length
  · rw [Nat.min_eq_left h]
    by_cases h2 : k ≤ xs.length
    · rw [Nat.min_eq_left h2]
    · rw [Nat.min_eq_right (by omega), List.take_of_length_le (by simp), List.take_of_length_le (by simp; omega)]
  · rw [Nat.min_eq_right (show xs.length ≤ j by omega), List.drop_eq_nil_of_le (show xs.length ≤ xs.length from Nat.le_refl _), List.drop_eq_nil_of_le (show xs.length ≤ j by omega), List.take_nil, List.take_nil]
end L2.G

namespace L2.G
open PySem PySem.Spec PyProof.Rows
/-! the same operations as functions of data: what must hold, and the value -/
abbrev PD := Option (Prop × D)
def oF (f : D → D → PD) : Op2 := fun x y k => match f x y with | some p => p.1 ∧ k p.2 | none => False
def oG (f : List D → PD) (ds : List D) (k : D → Prop) : Prop := match f ds with | some p => p.1 ∧ k p.2 | none => False
theorem OpS.imp {K : PySem.W.Frag} {r : R2} {o o' : Op2} (h : OpS K r o) (i : ∀ x y k, o' x y k → o x y k) : OpS K r o' := fun w r1 r2 q f => h w r1 r2 (i _ _ _ q) f
theorem BltS.imp {K : PySem.W.Frag} {r : List V → Hp → VK → Prop} {o o' : List D → (D → Prop) → Prop} (h : BltS K r o) (i : ∀ ds k, o' ds k → o ds k) : BltS K r o' := fun w r1 q f => h w r1 (i _ _ q) f
def fAdd : D → D → PD
  | .int i, .int j => some (True, .int (i + j))
  | .lst xs, .lst ys => some (xs.length + ys.length ≤ 1000000, .lst (xs ++ ys))
  | .tup xs, .tup ys => some (xs.length + ys.length ≤ 1000000, .tup (xs ++ ys))
  | .str s, .str u => some (s.length + u.length ≤ 1000000, .str (s ++ u))
  | _, _ => none
def fSub : D → D → PD
  | .int i, .int j => some (True, .int (i - j))
  | .bl b, .bl c => some (True, .int (b2i b - b2i c))
  | _, _ => none
def rSubB (x y : V) (H : Hp) (Q : VK) : Prop := ∃ b c : Bool, x = .bl b ∧ y = .bl c ∧ Q (.int (b2i b - b2i c)) H
theorem op_subB {X : Cx} : OpR X (binaryOp .Sub) rSubB := by
  intro pins s σ H x y v u Q I rx ry h
  obtain ⟨b, c, rfl, rfl, q⟩ := h
  cases rx
  cases ry
  exact PyProof.Rows.sub_bool ⟨.int (b2i b - b2i c), H, I.tok _, ⟨_, rfl⟩, q⟩
def oSubB : Op2 := fun x y k => match x, y with
  | .int i, .int j => k (.int (i - j))
  | .bl b, .bl c => k (.int (b2i b - b2i c))
  | _, _ => False
theorem oSubB_ok {K : PySem.W.Frag} : OpS K (fun x y H Q => (rI0 (fun i j => .int (i - j))) x y H Q ∨ rSubB x y H Q) oSubB := by
  intro t F H T x y v w k Q wt r1 r2 q f
  unfold oSubB at q
  split at q
  · exact .inl (oI_ok wt r1 r2 q f)
  · cases r1
    cases r2
    exact .inr ⟨_, _, rfl, rfl, f.val wt (.int _) q⟩
  · exact q.elim
def fMul : D → D → PD
  | .int i, .int j => some (MulOk i j, .int (i * j))
  | .lst xs, .int n => some (-(2 ^ 63) ≤ n ∧ n < 2 ^ 63 ∧ xs.length * n.toNat ≤ 1000000, .lst (repD xs n.toNat))
  | _, _ => none
def fDiv : D → D → PD | .int i, .int j => some (DivOk i j, .int (i / j)) | _, _ => none
def fMod : D → D → PD | .int i, .int j => some (0 < j, .int (i % j)) | _, _ => none
def fPow : D → D → PD | .int i, .int j => some (CPow i j, .int (i ^ j.toNat)) | _, _ => none
def fShl : D → D → PD | .int i, .int j => some (CPow i j, .int (i * 2 ^ j.toNat)) | _, _ => none
def fLt : D → D → PD | .int i, .int j => some (True, .bl (decide (i < j))) | _, _ => none
def fLe : D → D → PD | .int i, .int j => some (True, .bl (decide (i ≤ j))) | _, _ => none
def fGt : D → D → PD | .int i, .int j => some (True, .bl (decide (j < i))) | _, _ => none
def fGe : D → D → PD | .int i, .int j => some (True, .bl (decide (j ≤ i))) | _, _ => none
def fEq (x y : D) : PD := match x, y with
  | .int i, .int j => some (True, .bl (decide (i = j)))
  | .str i, .str j => some (True, .bl (decide (i = j)))
  | .bl i, .bl j => some (True, .bl (decide (i = j)))
  | x, y => some (x.eqOk ∧ y.eqOk, .bl (eqD x y))
def fNe (x y : D) : PD := match x, y with
  | .int i, .int j => some (True, .bl (!decide (i = j)))
  | .str i, .str j => some (True, .bl (!decide (i = j)))
  | .bl i, .bl j => some (True, .bl (!decide (i = j)))
  | x, y => some (x.eqOk ∧ y.eqOk, .bl (!eqD x y))
theorem fEq_int {i j : Int} : fEq (.int i) (.int j) = some (True, .bl (decide (i = j))) := rfl
theorem fEq_str {i j : Str} : fEq (.str i) (.str j) = some (True, .bl (decide (i = j))) := rfl
theorem fEq_bl {i j : Bool} : fEq (.bl i) (.bl j) = some (True, .bl (decide (i = j))) := rfl
theorem fEq_tup {x y : List D} : fEq (.tup x) (.tup y) = some ((D.tup x).eqOk ∧ (D.tup y).eqOk, .bl (eqD (.tup x) (.tup y))) := rfl
theorem fEq_lst {x y : List D} : fEq (.lst x) (.lst y) = some ((D.lst x).eqOk ∧ (D.lst y).eqOk, .bl (eqD (.lst x) (.lst y))) := rfl
theorem fEq_tn {x : List D} : fEq (.tup x) .non = some ((D.tup x).eqOk ∧ D.non.eqOk, .bl (eqD (.tup x) .non)) := rfl
theorem fEq_nt {x : List D} : fEq .non (.tup x) = some (D.non.eqOk ∧ (D.tup x).eqOk, .bl (eqD .non (.tup x))) := rfl
theorem fEq_nn : fEq .non .non = some (D.non.eqOk ∧ D.non.eqOk, .bl (eqD .non .non)) := rfl
theorem fNe_int {i j : Int} : fNe (.int i) (.int j) = some (True, .bl (!decide (i = j))) := rfl
theorem fNe_str {i j : Str} : fNe (.str i) (.str j) = some (True, .bl (!decide (i = j))) := rfl
theorem fNe_bl {i j : Bool} : fNe (.bl i) (.bl j) = some (True, .bl (!decide (i = j))) := rfl
theorem fNe_tup {x y : List D} : fNe (.tup x) (.tup y) = some ((D.tup x).eqOk ∧ (D.tup y).eqOk, .bl (!eqD (.tup x) (.tup y))) := rfl
theorem fNe_lst {x y : List D} : fNe (.lst x) (.lst y) = some ((D.lst x).eqOk ∧ (D.lst y).eqOk, .bl (!eqD (.lst x) (.lst y))) := rfl
theorem fNe_tn {x : List D} : fNe (.tup x) .non = some ((D.tup x).eqOk ∧ D.non.eqOk, .bl (!eqD (.tup x) .non)) := rfl
theorem fNe_nt {x : List D} : fNe .non (.tup x) = some (D.non.eqOk ∧ (D.tup x).eqOk, .bl (!eqD .non (.tup x))) := rfl
theorem fNe_nn : fNe .non .non = some (D.non.eqOk ∧ D.non.eqOk, .bl (!eqD .non .non)) := rfl
def fIn (x y : D) : PD := match y with | .lst ys => some (x.eqOk ∧ D.eqOk (.lst ys), .bl (ys.any fun z => eqD z x)) | _ => none
def fNotIn (x y : D) : PD := match y with | .lst ys => some (x.eqOk ∧ D.eqOk (.lst ys), .bl (!ys.any fun z => eqD z x)) | _ => none
def D.seq? : D → Option (List D) | .tup xs => some xs | .lst xs => some xs | .scr xs => some xs | _ => none
def fIx (x y : D) : PD := match y with | .int i => (match x.seq? with | some xs => (match atI xs i with | some d => some (True, d) | none => none) | none => none) | _ => none
theorem fAdd_ok {x y : D} {k : D → Prop} (h : oF fAdd x y k) : oAdd x y k := by cases x <;> cases y <;> first | exact h.elim | (obtain ⟨h1, h2⟩ := h; first | exact h2 | exact ⟨h1, h2⟩)
theorem fSub_ok {x y : D} {k : D → Prop} (h : oF fSub x y k) : oSubB x y k := by cases x <;> cases y <;> first | exact h.elim | exact h.2
theorem fMul_ok {x y : D} {k : D → Prop} (h : oF fMul x y k) : oMul x y k := by cases x <;> cases y <;> first | exact h.elim | exact h
theorem fDiv_ok {x y : D} {k : D → Prop} (h : oF fDiv x y k) : oIC DivOk (fun i j => i / j) x y k := by cases x <;> cases y <;> first | exact h.elim | exact h
theorem fMod_ok {x y : D} {k : D → Prop} (h : oF fMod x y k) : oIC (fun _ j => 0 < j) (fun i j => i % j) x y k := by cases x <;> cases y <;> first | exact h.elim | exact h
theorem fPow_ok {x y : D} {k : D → Prop} (h : oF fPow x y k) : oIC CPow (fun i j => i ^ j.toNat) x y k := by cases x <;> cases y <;> first | exact h.elim | exact h
theorem fLt_ok {x y : D} {k : D → Prop} (h : oF fLt x y k) : oB (fun i j => decide (i < j)) x y k := by cases x <;> cases y <;> first | exact h.elim | exact h.2
theorem fGt_ok {x y : D} {k : D → Prop} (h : oF fGt x y k) : oB (fun i j => decide (j < i)) x y k := by cases x <;> cases y <;> first | exact h.elim | exact h.2
theorem fGe_ok {x y : D} {k : D → Prop} (h : oF fGe x y k) : oB (fun i j => decide (j ≤ i)) x y k := by cases x <;> cases y <;> first | exact h.elim | exact h.2
theorem fEq_ok {x y : D} {k : D → Prop} (h : oF fEq x y k) : oEqU x y k := by cases x <;> cases y <;> first | exact h.2 | exact ⟨h.1.1, h.1.2, h.2⟩
theorem fNe_ok {x y : D} {k : D → Prop} (h : oF fNe x y k) : oNeU x y k := by cases x <;> cases y <;> first | exact h.2 | exact ⟨h.1.1, h.1.2, h.2⟩
theorem fIx_ok {x y : D} {k : D → Prop} (h : oF fIx x y k) : oIx x y k := by
  cases y <;> first | exact h.elim | skip
  rename_i i
  cases x <;> first | exact h.elim | skip
  all_goals
    rename_i xs
    unfold oF fIx D.seq? at h
    unfold oIx
    simp only at h ⊢
    cases e : atI xs i with
    | none => rw [e] at h; exact h.elim
    | some d => rw [e] at h; exact h.2
section
variable {X : Cx} {a b e : Expr} {fa fb fe : dE} {fr : dA} {p pos : Pos} {n : Nat} {es : List Expr} {tg : Expr}
theorem f_add (ha : PEd X a fa) (hb : PEd X b fb) : PEd X (.BinOp a .Add b pos) (dOp (oF fAdd) fa fb) := d_op (op_add.or ((op_cat.or op_catA).or op_add_str)) (oAdd_ok.imp fun _ _ _ => fAdd_ok) ha hb
theorem f_sub (ha : PEd X a fa) (hb : PEd X b fb) : PEd X (.BinOp a .Sub b pos) (dOp (oF fSub) fa fb) := d_op (op_sub.or op_subB) (oSubB_ok.imp fun _ _ _ => fSub_ok) ha hb
theorem f_mul (ha : PEd X a fa) (hb : PEd X b fb) : PEd X (.BinOp a .Mult b pos) (dOp (oF fMul) fa fb) := d_op (op_mulQ.or op_rep) (oMul_ok.imp fun _ _ _ => fMul_ok) ha hb
theorem f_div (ha : PEd X a fa) (hb : PEd X b fb) : PEd X (.BinOp a .FloorDiv b pos) (dOp (oF fDiv) fa fb) := d_op op_divQ (oIC_ok.imp fun _ _ _ => fDiv_ok) ha hb
theorem f_mod (ha : PEd X a fa) (hb : PEd X b fb) : PEd X (.BinOp a .Mod b pos) (dOp (oF fMod) fa fb) := d_op op_mod (oIC_ok.imp fun _ _ _ => fMod_ok) ha hb
theorem f_pow (ha : PEd X a fa) (hb : PEd X b fb) : PEd X (.BinOp a .Pow b pos) (dOp (oF fPow) fa fb) := d_op op_pow (oIC_ok.imp fun _ _ _ => fPow_ok) ha hb
theorem f_ix (ha : PEd X a fa) (hb : PEd X b fb) (hs : PlainIx b := by exact fun _ _ => rfl) : PEd X (.Subscript a b pos) (dOp (oF fIx) fa fb) :=
  pe_imp (pe_ix (ix_list.or ix_tup) ha hb hs) fun σ H Q h => two (o := fun x y T k => oF fIx x y fun d => k d T) (R := fun x y H Q => rIxL X.K x y H Q ∨ rIxT X.K x y H Q) (fun w r1 r2 q f => oIx_ok w r1 r2 (fIx_ok q) f) h
theorem t_flt (ha : PEd X a fa) (hb : PEd X b fb) : PTd X (.Compare a [.Lt] [b] pos) (dTst (dOp (oF fLt) fa fb)) := d_tcmp op_lt (oB_ok.imp fun _ _ _ => fLt_ok) ha hb (nomark _)
theorem t_fgt (ha : PEd X a fa) (hb : PEd X b fb) : PTd X (.Compare a [.Gt] [b] pos) (dTst (dOp (oF fGt) fa fb)) := d_tcmp op_gt (oB_ok.imp fun _ _ _ => fGt_ok) ha hb (nomark _)
theorem t_fge (ha : PEd X a fa) (hb : PEd X b fb) : PTd X (.Compare a [.GtE] [b] pos) (dTst (dOp (oF fGe) fa fb)) := d_tcmp op_ge (oB_ok.imp fun _ _ _ => fGe_ok) ha hb (nomark _)
theorem d_feq (hr : Room n X.A) (ha : PEd X a fa) (hb : PEd X b fb) : PEd X (.Compare a [.Eq] [b] pos) (dOp (oF fEq) fa fb) := d_cmp (op_eq.or (op_eqD (by have := room66 hr; omega))) (oEqU_ok.imp fun _ _ _ => fEq_ok) ha hb (nomark _)
theorem t_feq (hr : Room n X.A) (ha : PEd X a fa) (hb : PEd X b fb) : PTd X (.Compare a [.Eq] [b] pos) (dTst (dOp (oF fEq) fa fb)) := d_tcmp (op_eq.or (op_eqD (by have := room66 hr; omega))) (oEqU_ok.imp fun _ _ _ => fEq_ok) ha hb (nomark _)
theorem t_fne (hr : Room n X.A) (ha : PEd X a fa) (hb : PEd X b fb) : PTd X (.Compare a [.NotEq] [b] pos) (dTst (dOp (oF fNe) fa fb)) := d_tcmp (op_ne.or (op_neD (by have := room66 hr; omega))) (oNeU_ok.imp fun _ _ _ => fNe_ok) ha hb (nomark _)
/-! built-ins -/
def fLen : List D → PD | [d] => (match d.seq? with | some xs => some (True, .int xs.length) | none => none) | _ => none
def fI1 (g : Int → Int) : List D → PD | [.int i] => some (True, .int (g i)) | _ => none
def fI2 (g : Int → Int → Int) : List D → PD | [.int i, .int j] => some (True, .int (g i j)) | _ => none
def fInt : List D → PD | [.int i] => some (True, .int i) | [.bl b] => some (True, .int (if b then 1 else 0)) | _ => none
def fSqrt : List D → PD | [.int i] => some (0 ≤ i ∧ i.natAbs < 2 ^ 13000, .int ((Float64.isqrt i.toNat : Nat) : Int)) | _ => none
def fDivmod : List D → PD | [.int i, .int j] => some (DmOk i j, .tup [.int (i / j), .int (i % j)]) | _ => none
def fAll : List D → PD | [.lst xs] => (match bls? xs with | some bs => some (True, .bl (bs.all fun b => b)) | none => none) | _ => none
def fAny : List D → PD | [.lst xs] => (match bls? xs with | some bs => some (True, .bl (bs.any fun b => b)) | none => none) | _ => none
def fSum : List D → PD | [.lst xs] => (match nums? xs with | some bs => some (True, .int bs.sum) | none => none) | _ => none
def fTuple : List D → PD | [.lst xs] => some (True, .tup xs) | [.tup xs] => some (True, .tup xs) | _ => none
def fList : List D → PD | [d] => (match d.seq? with | some xs => some (True, .lst xs) | none => none) | _ => none
def fRepr : List D → PD | [.int i] => some (i.natAbs.log2 < 1920, .str (toString i)) | [.tup xs] => some (D.shOk (.tup xs), .str (D.py (.tup xs)).shown) | [.lst xs] => some (D.shOk (.lst xs), .str (D.py (.lst xs)).shown) | [.bl b] => some (True, .str (if b then "True" else "False")) | [.non] => some (True, .str "None") | _ => none
theorem fLen_ok {ds : List D} {k : D → Prop} (h : oG fLen ds k) : oLen ds k := by
  cases ds with
  | nil => exact h.elim
  | cons d r => cases r with
    | nil => cases d <;> first | exact h.elim | exact h.2
    | cons _ _ => cases d <;> exact h.elim
theorem one_ok {f : List D → PD} {o : List D → (D → Prop) → Prop} (h0 : ∀ k, oG f [] k → o [] k) (h1 : ∀ d k, oG f [d] k → o [d] k) (h2 : ∀ d e r k, oG f (d :: e :: r) k → o (d :: e :: r) k) {ds : List D} {k : D → Prop} (h : oG f ds k) : o ds k := by
  match ds with
  | [] => exact h0 k h
  | [d] => exact h1 d k h
  | d :: e :: r => exact h2 d e r k h
theorem fI1_ok {g : Int → Int} {ds : List D} {k : D → Prop} (h : oG (fI1 g) ds k) : o1 g ds k := by
  refine one_ok (f := fI1 g) (o := o1 g) ?_ ?_ ?_ h
  · intro k h; exact h.elim
  · intro d k h; cases d <;> first | exact h.elim | exact h.2
  · intro d e r k h; cases d <;> exact h.elim
theorem fI2_ok {g : Int → Int → Int} {ds : List D} {k : D → Prop} (h : oG (fI2 g) ds k) : o2 g ds k := by
  refine one_ok (f := fI2 g) (o := o2 g) ?_ ?_ ?_ h
  · intro k h; exact h.elim
  · intro d k h; cases d <;> exact h.elim
  · intro d e r k h
    cases r with
    | nil => cases d <;> cases e <;> first | exact h.elim | exact h.2
    | cons _ _ => cases d <;> cases e <;> exact h.elim
theorem fInt_ok {ds : List D} {k : D → Prop} (h : oG fInt ds k) : oIntB ds k := by
  refine one_ok (f := fInt) (o := oIntB) ?_ ?_ ?_ h
  · intro k h; exact h.elim
  · intro d k h; cases d <;> first | exact h.elim | exact h.2
  · intro d e r k h; cases d <;> exact h.elim
theorem fDivmod_ok {ds : List D} {k : D → Prop} (h : oG fDivmod ds k) : oDivmod ds k := by
  refine one_ok (f := fDivmod) (o := oDivmod) ?_ ?_ ?_ h
  · intro k h; exact h.elim
  · intro d k h; cases d <;> exact h.elim
  · intro d e r k h
    cases r with
    | nil => cases d <;> cases e <;> first | exact h.elim | exact h
    | cons _ _ => cases d <;> cases e <;> exact h.elim
theorem fAll_ok {ds : List D} {k : D → Prop} (h : oG fAll ds k) : oAll ds k := by
  refine one_ok (f := fAll) (o := oAll) ?_ ?_ ?_ h
  · intro k h; exact h.elim
  · intro d k h
    cases d <;> first | exact h.elim | skip
    rename_i xs
    unfold oG fAll at h
    unfold oAll
    simp only at h ⊢
    cases q : bls? xs with
    | none => rw [q] at h; exact h.elim
    | some bs => rw [q] at h; exact h.2
  · intro d e r k h; cases d <;> exact h.elim
theorem fTuple_ok {ds : List D} {k : D → Prop} (h : oG fTuple ds k) : oTuple ds k := by
  refine one_ok (f := fTuple) (o := oTuple) ?_ ?_ ?_ h
  · intro k h; exact h.elim
  · intro d k h; cases d <;> first | exact h.elim | exact h.2
  · intro d e r k h; cases d <;> exact h.elim
theorem fList_ok {ds : List D} {k : D → Prop} (h : oG fList ds k) : oList ds k := by
  refine one_ok (f := fList) (o := oList) ?_ ?_ ?_ h
  · intro k h; exact h.elim
  · intro d k h; cases d <;> first | exact h.elim | exact h.2
  · intro d e r k h; cases d <;> exact h.elim
theorem fRepr_ok {ds : List D} {k : D → Prop} (h : oG fRepr ds k) : oRepr ds k := by
  refine one_ok (f := fRepr) (o := oRepr) ?_ ?_ ?_ h
  · intro k h; exact h.elim
  · intro d k h; cases d <;> first | exact h.elim | exact h | exact h.2
  · intro d e r k h; cases d <;> exact h.elim
theorem g_len (hm : X.mg "len" = none) (ha : PAd X (e :: es) fr) (hg : Gl X "len" := by rfl)
    (he : starEach (e :: es) X.env = (false, eval e X.env) :: starEach es X.env := by rfl) (hp : (backTo pos (starEach es X.env)).any (·.1) = false := by rfl) : PEd X (.Call (.Name "len" p) (e :: es) [] pos) (dBlt (oG fLen) fr) := d_blt call_len_seq (oLen_ok.imp fun _ _ => fLen_ok) hm ha boot_len hg (by decide) (by decide) he hp
abbrev iAbs : Int → Int := fun i => if i < 0 then -i else i
abbrev iMax : Int → Int → Int := fun i j => if j > i then j else i
abbrev iMin : Int → Int → Int := fun i j => if j < i then j else i
abbrev iGcd : Int → Int → Int := fun a b => ((Nat.gcd a.natAbs b.natAbs : Nat) : Int)
theorem boot_abs' : bootBuiltins "abs" = some (.builtin "abs") := by decide +kernel
theorem boot_max' : bootBuiltins "max" = some (.builtin "max") := by decide +kernel
theorem boot_min' : bootBuiltins "min" = some (.builtin "min") := by decide +kernel
theorem boot_int' : bootBuiltins "int" = some (.type "int") := by decide +kernel
theorem boot_divmod' : bootBuiltins "divmod" = some (.builtin "divmod") := by decide +kernel
theorem boot_all' : bootBuiltins "all" = some (.builtin "all") := by decide +kernel
theorem boot_tuple' : bootBuiltins "tuple" = some (.type "tuple") := by decide +kernel
theorem boot_list' : bootBuiltins "list" = some (.type "list") := by decide +kernel
theorem boot_repr' : bootBuiltins "repr" = some (.builtin "repr") := by decide +kernel
theorem g_abs (hm : X.mg "abs" = none) (ha : PAd X (e :: es) fr) (hg : Gl X "abs" := by rfl)
    (he : starEach (e :: es) X.env = (false, eval e X.env) :: starEach es X.env := by rfl) (hp : (backTo pos (starEach es X.env)).any (·.1) = false := by rfl) : PEd X (.Call (.Name "abs" p) (e :: es) [] pos) (dBlt (oG (fI1 iAbs)) fr) := d_blt call_abs (o1_ok.imp fun _ _ => fI1_ok) hm ha boot_abs' hg (by decide) (by decide) he hp
theorem g_max2 (hc : X.calm = true) (hm : X.mg "max" = none) (ha : PAd X (e :: es) fr) (hg : Gl X "max" := by rfl)
    (he : starEach (e :: es) X.env = (false, eval e X.env) :: starEach es X.env := by rfl) (hp : (backTo pos (starEach es X.env)).any (·.1) = false := by rfl) : PEd X (.Call (.Name "max" p) (e :: es) [] pos) (dBlt (oG (fI2 iMax)) fr) := d_blt (call_max2 hc) (o2_ok.imp fun _ _ => fI2_ok) hm ha boot_max' hg (by decide) (by decide) he hp
theorem g_min2 (hc : X.calm = true) (hm : X.mg "min" = none) (ha : PAd X (e :: es) fr) (hg : Gl X "min" := by rfl)
    (he : starEach (e :: es) X.env = (false, eval e X.env) :: starEach es X.env := by rfl) (hp : (backTo pos (starEach es X.env)).any (·.1) = false := by rfl) : PEd X (.Call (.Name "min" p) (e :: es) [] pos) (dBlt (oG (fI2 iMin)) fr) := d_blt (call_min2 hc) (o2_ok.imp fun _ _ => fI2_ok) hm ha boot_min' hg (by decide) (by decide) he hp
theorem g_toint (hm : X.mg "int" = none) (ha : PAd X (e :: es) fr) (hg : Gl X "int" := by rfl)
    (he : starEach (e :: es) X.env = (false, eval e X.env) :: starEach es X.env := by rfl) (hp : (backTo pos (starEach es X.env)).any (·.1) = false := by rfl) : PEd X (.Call (.Name "int" p) (e :: es) [] pos) (dBlt (oG fInt) fr) := d_blty call_int1 (oIntB_ok.imp fun _ _ => fInt_ok) hm ha boot_int' hg (by decide) (by decide) he hp
theorem g_divmod (hm : X.mg "divmod" = none) (ha : PAd X (e :: es) fr) (hg : Gl X "divmod" := by rfl)
    (he : starEach (e :: es) X.env = (false, eval e X.env) :: starEach es X.env := by rfl) (hp : (backTo pos (starEach es X.env)).any (·.1) = false := by rfl) : PEd X (.Call (.Name "divmod" p) (e :: es) [] pos) (dBlt (oG fDivmod) fr) := d_blt call_divmodQ (oDivmod_ok.imp fun _ _ => fDivmod_ok) hm ha boot_divmod' hg (by decide) (by decide) he hp
theorem g_all (hc : X.calm = true) (hm : X.mg "all" = none) (ha : PAd X (e :: es) fr) (hg : Gl X "all" := by rfl)
    (he : starEach (e :: es) X.env = (false, eval e X.env) :: starEach es X.env := by rfl) (hp : (backTo pos (starEach es X.env)).any (·.1) = false := by rfl) : PEd X (.Call (.Name "all" p) (e :: es) [] pos) (dBlt (oG fAll) fr) := d_blt (cr_all hc) (oAll_ok.imp fun _ _ => fAll_ok) hm ha boot_all' hg (by decide) (by decide) he hp
theorem g_totup (hm : X.mg "tuple" = none) (ha : PAd X (e :: es) fr) (hg : Gl X "tuple" := by rfl)
    (he : starEach (e :: es) X.env = (false, eval e X.env) :: starEach es X.env := by rfl) (hp : (backTo pos (starEach es X.env)).any (·.1) = false := by rfl) : PEd X (.Call (.Name "tuple" p) (e :: es) [] pos) (dBlt (oG fTuple) fr) := d_blty call_tuple_of (oTuple_ok.imp fun _ _ => fTuple_ok) hm ha boot_tuple' hg (by decide) (by decide) he hp
theorem g_tolist (hm : X.mg "list" = none) (ha : PAd X (e :: es) fr) (hg : Gl X "list" := by rfl)
    (he : starEach (e :: es) X.env = (false, eval e X.env) :: starEach es X.env := by rfl) (hp : (backTo pos (starEach es X.env)).any (·.1) = false := by rfl) : PEd X (.Call (.Name "list" p) (e :: es) [] pos) (dBlt (oG fList) fr) := d_blty call_list_of (oList_ok.imp fun _ _ => fList_ok) hm ha boot_list' hg (by decide) (by decide) he hp
theorem g_repr (hgd : X.A.guards = some []) (hu : X.A.units + 66 < cLine) (hm : X.mg "repr" = none) (ha : PAd X (e :: es) fr) (hg : Gl X "repr" := by rfl)
    (he : starEach (e :: es) X.env = (false, eval e X.env) :: starEach es X.env := by rfl) (hp : (backTo pos (starEach es X.env)).any (·.1) = false := by rfl) : PEd X (.Call (.Name "repr" p) (e :: es) [] pos) (dBlt (oG fRepr) fr) := d_blt (call_reprD hgd hu) (oRepr_ok.imp fun _ _ => fRepr_ok) hm ha boot_repr' hg (by decide) (by decide) he hp
/-! walks, slices -/
def D.it? : D → Option (List D) | .tup xs => some xs | .lst xs => some xs | _ => none
def iQ (fe : dE) : dI := fun ρ T k => fe ρ T fun d T1 => match d.it? with | some xs => xs.length ≤ 1000000 ∧ k xs T1 | none => False
theorem iQ_eq (fe : dE) : iQ fe = iS fe := by
  funext ρ T k
  unfold iQ iS
  congr 1
  funext d T1
  cases d <;> rfl
theorem g_seq (he : PEd X e fe) : PId X tg e (iQ fe) := by
  rw [iQ_eq]
  exact i_seq he
def D.cut? (d : D) (l h : Option Int) : Option D := match d with | .lst xs => some (.lst (cutD xs l h)) | .scr xs => some (.lst (cutD xs l h)) | .tup xs => some (.tup (cutD xs l h)) | _ => none
def dSlQ (fe : dE) (lo hi : dP) : dE := fun ρ T k => fe ρ T fun x T1 => lo ρ T1 fun l T2 => hi ρ T2 fun h T3 => match x.cut? l h with | some d => k d T3 | none => False
theorem dSlQ_eq (fe : dE) (lo hi : dP) : dSlQ fe lo hi = dSl fe lo hi := by
  funext ρ T k
  unfold dSlQ dSl
  congr 1
  funext x T1
  congr 1
  funext l T2
  congr 1
  funext h T3
  cases x <;> rfl
theorem g_slice {lo hi : Option Expr} {fl fh : dP} {p2 : Pos} (he : PEd X e fe) (hl : POd X lo fl) (hh : POd X hi fh) : PEd X (.Subscript e (.Slice lo hi none p2) pos) (dSlQ fe fl fh) := by
  rw [dSlQ_eq]
  exact d_slice he hl hh
end
end L2.G

namespace L2.G
open PySem PySem.Spec PyProof.Rows
section
variable {i j : Int} {b c : Bool} {s u : Str} {xs ys : List D} {d : D}
theorem fAdd_int : fAdd (.int i) (.int j) = some (True, .int (i + j)) := rfl
theorem fAdd_lst : fAdd (.lst xs) (.lst ys) = some (xs.length + ys.length ≤ 1000000, .lst (xs ++ ys)) := rfl
theorem fAdd_tup : fAdd (.tup xs) (.tup ys) = some (xs.length + ys.length ≤ 1000000, .tup (xs ++ ys)) := rfl
theorem fAdd_str : fAdd (.str s) (.str u) = some (s.length + u.length ≤ 1000000, .str (s ++ u)) := rfl
theorem fSub_int : fSub (.int i) (.int j) = some (True, .int (i - j)) := rfl
theorem fSub_bl : fSub (.bl b) (.bl c) = some (True, .int (b2i b - b2i c)) := rfl
theorem fMul_int : fMul (.int i) (.int j) = some (MulOk i j, .int (i * j)) := rfl
theorem fMul_lst : fMul (.lst xs) (.int i) = some (-(2 ^ 63) ≤ i ∧ i < 2 ^ 63 ∧ xs.length * i.toNat ≤ 1000000, .lst (repD xs i.toNat)) := rfl
theorem fDiv_int : fDiv (.int i) (.int j) = some (DivOk i j, .int (i / j)) := rfl
theorem fMod_int : fMod (.int i) (.int j) = some (0 < j, .int (i % j)) := rfl
theorem fPow_int : fPow (.int i) (.int j) = some (CPow i j, .int (i ^ j.toNat)) := rfl
theorem fShl_int : fShl (.int i) (.int j) = some (CPow i j, .int (i * 2 ^ j.toNat)) := rfl
theorem fLt_int : fLt (.int i) (.int j) = some (True, .bl (decide (i < j))) := rfl
theorem fLe_int : fLe (.int i) (.int j) = some (True, .bl (decide (i ≤ j))) := rfl
theorem fGt_int : fGt (.int i) (.int j) = some (True, .bl (decide (j < i))) := rfl
theorem fGe_int : fGe (.int i) (.int j) = some (True, .bl (decide (j ≤ i))) := rfl
theorem fIn_lst : fIn d (.lst ys) = some (d.eqOk ∧ D.eqOk (.lst ys), .bl (ys.any fun z => eqD z d)) := rfl
theorem fNotIn_lst : fNotIn d (.lst ys) = some (d.eqOk ∧ D.eqOk (.lst ys), .bl (!ys.any fun z => eqD z d)) := rfl
def ixR : Option D → PD | some d => some (True, d) | none => none
theorem ixR_some : ixR (some d) = some (True, d) := rfl
theorem fIx_tup : fIx (.tup xs) (.int i) = ixR (atI xs i) := by show (match atI xs i with | some d => some (True, d) | none => none) = ixR (atI xs i); cases atI xs i <;> rfl
theorem fIx_lst : fIx (.lst xs) (.int i) = ixR (atI xs i) := by show (match atI xs i with | some d => some (True, d) | none => none) = ixR (atI xs i); cases atI xs i <;> rfl
theorem fIx_scr : fIx (.scr xs) (.int i) = ixR (atI xs i) := by show (match atI xs i with | some d => some (True, d) | none => none) = ixR (atI xs i); cases atI xs i <;> rfl
theorem fLen_tup : fLen [.tup xs] = some (True, .int xs.length) := rfl
theorem fLen_lst : fLen [.lst xs] = some (True, .int xs.length) := rfl
theorem fLen_scr : fLen [.scr xs] = some (True, .int xs.length) := rfl
theorem fI1_int {g : Int → Int} : fI1 g [.int i] = some (True, .int (g i)) := rfl
theorem fI2_int {g : Int → Int → Int} : fI2 g [.int i, .int j] = some (True, .int (g i j)) := rfl
theorem fInt_int : fInt [.int i] = some (True, .int i) := rfl
theorem fInt_bl : fInt [.bl b] = some (True, .int (if b then 1 else 0)) := rfl
theorem fDivmod_int : fDivmod [.int i, .int j] = some (DmOk i j, .tup [.int (i / j), .int (i % j)]) := rfl
def blR (f : List Bool → Bool) : Option (List Bool) → PD | some bs => some (True, .bl (f bs)) | none => none
theorem blR_some {f : List Bool → Bool} {bs : List Bool} : blR f (some bs) = some (True, .bl (f bs)) := rfl
theorem fAll_lst : fAll [.lst xs] = blR (fun bs => bs.all fun b => b) (bls? xs) := by show (match bls? xs with | some bs => some (True, D.bl (bs.all fun b => b)) | none => none) = blR (fun bs => bs.all fun b => b) (bls? xs); cases bls? xs <;> rfl
theorem fAny_lst : fAny [.lst xs] = blR (fun bs => bs.any fun b => b) (bls? xs) := by show (match bls? xs with | some bs => some (True, D.bl (bs.any fun b => b)) | none => none) = blR (fun bs => bs.any fun b => b) (bls? xs); cases bls? xs <;> rfl
def nuR : Option (List Int) → PD | some bs => some (True, .int bs.sum) | none => none
theorem nuR_some {bs : List Int} : nuR (some bs) = some (True, .int bs.sum) := rfl
theorem fSum_lst : fSum [.lst xs] = nuR (nums? xs) := by show (match nums? xs with | some bs => some (True, D.int bs.sum) | none => none) = nuR (nums? xs); cases nums? xs <;> rfl
theorem fTuple_lst : fTuple [.lst xs] = some (True, .tup xs) := rfl
theorem fTuple_tup : fTuple [.tup xs] = some (True, .tup xs) := rfl
theorem fList_lst : fList [.lst xs] = some (True, .lst xs) := rfl
theorem fList_tup : fList [.tup xs] = some (True, .lst xs) := rfl
theorem fList_scr : fList [.scr xs] = some (True, .lst xs) := rfl
theorem fRepr_int : fRepr [.int i] = some (i.natAbs.log2 < 1920, .str (toString i)) := rfl
theorem fRepr_tup : fRepr [.tup xs] = some (D.shOk (.tup xs), .str (D.py (.tup xs)).shown) := rfl
theorem fRepr_lst : fRepr [.lst xs] = some (D.shOk (.lst xs), .str (D.py (.lst xs)).shown) := rfl
theorem fRepr_bl : fRepr [.bl b] = some (True, .str (if b then "True" else "False")) := rfl
theorem fRepr_non : fRepr [.non] = some (True, .str "None") := rfl
theorem it_tup : (D.tup xs).it? = some xs := rfl
theorem it_lst : (D.lst xs).it? = some xs := rfl
theorem cutq_lst {l h : Option Int} : (D.lst xs).cut? l h = some (.lst (cutD xs l h)) := rfl
theorem cutq_scr {l h : Option Int} : (D.scr xs).cut? l h = some (.lst (cutD xs l h)) := rfl
theorem cutq_tup {l h : Option Int} : (D.tup xs).cut? l h = some (.tup (cutD xs l h)) := rfl
theorem isNon_non : D.non.isNon = true := rfl
theorem isNon_int : (D.int i).isNon = false := rfl
theorem isNon_bl : (D.bl b).isNon = false := rfl
theorem isNon_str : (D.str s).isNon = false := rfl
theorem isNon_tup : (D.tup xs).isNon = false := rfl
theorem isNon_lst : (D.lst xs).isNon = false := rfl
theorem bls_nil : bls? [] = some [] := rfl
theorem bls_cons : bls? (.bl b :: xs) = (bls? xs).map (b :: ·) := rfl
theorem nums_nil : nums? [] = some [] := rfl
theorem nums_cons : nums? (.int i :: xs) = (nums? xs).map (i :: ·) := rfl
theorem all_nil' : ([] : List Bool).all (fun b => b) = true := rfl
theorem all_cons' {bs : List Bool} : (b :: bs).all (fun b => b) = (b && bs.all fun b => b) := rfl
theorem any_nil' : ([] : List Bool).any (fun b => b) = false := rfl
theorem any_cons' {bs : List Bool} : (b :: bs).any (fun b => b) = (b || bs.any fun b => b) := rfl
end
/-- a test's answer that hangs on nothing -/
theorem ifT {A B : Prop} : (if True then A else B) = A := if_pos trivial
theorem ifF {A B : Prop} : (if False then A else B) = B := if_neg (fun h => h)

theorem ifA {A B X Y : Prop} [Decidable A] [Decidable B] : (if A then (if B then X else Y) else Y) = (if A ∧ B then X else Y) := by
  by_cases a : A <;> by_cases b : B <;> simp [a, b]
theorem ifO {A B X Y : Prop} [Decidable A] [Decidable B] : (if A then X else (if B then X else Y)) = (if A ∨ B then X else Y) := by
  by_cases a : A <;> by_cases b : B <;> simp [a, b]
/-! texts of data -/
mutual
/-- numbers below 2 ^ 1900 -/
def D.lite : D → Prop
  | .non => True | .bl _ => True | .int i => i.natAbs < 2 ^ 1900 | .str x => PyData.strOk x = true ∧ PyData.strOk (reprText x) = true ∧ (x.cps.toList.all fun c => decide (c < 16 ^ 8)) = true | .tup xs => D.liteL xs | .lst xs => D.liteL xs | .obj _ _ _ => False | .ref _ => False | .scr _ => False | .dct _ _ => False
def D.liteL : List D → Prop
  | [] => True | x :: r => x.lite ∧ D.liteL r
end
mutual
theorem lite_isPy : ∀ {d : D}, d.lite → d.isPy = true
  | .non, _ => rfl
  | .bl _, _ => rfl
  | .int _, _ => rfl
  | .str _, _ => rfl
  | .tup xs, h => by have := lite_isPyL (ds := xs) (by simpa only [D.lite] using h); simpa only [D.isPy] using this
  | .lst xs, h => by have := lite_isPyL (ds := xs) (by simpa only [D.lite] using h); simpa only [D.isPy] using this
  | .obj _ _ _, h => by simp only [D.lite] at h
  | .ref _, h => by simp only [D.lite] at h
  | .scr _, h => by simp only [D.lite] at h
  | .dct _ _, h => by simp only [D.lite] at h
theorem lite_isPyL : ∀ {ds : List D}, D.liteL ds → D.isPyL ds = true
  | [], _ => rfl
  | x :: r, h => by
    simp only [D.liteL] at h
    simp only [D.isPyL, lite_isPy h.1, lite_isPyL h.2, Bool.and_self]
end
mutual
theorem lite_lay : ∀ {d : D}, d.lite → d.py.canLay0 = true
  | .non, _ => rfl
  | .bl _, _ => rfl
  | .int _, _ => rfl
  | .str _, h => by simp only [D.lite] at h; simp only [D.py, PyData.canLay0]; exact h.1
  | .tup xs, h => by have := lite_layL (ds := xs) (by simpa only [D.lite] using h); simpa only [D.py, PyData.canLay0] using this
  | .lst xs, h => by have := lite_layL (ds := xs) (by simpa only [D.lite] using h); simpa only [D.py, PyData.canLay0] using this
  | .obj _ _ _, h => by simp only [D.lite] at h
  | .ref _, h => by simp only [D.lite] at h
  | .scr _, h => by simp only [D.lite] at h
  | .dct _ _, h => by simp only [D.lite] at h
theorem lite_layL : ∀ {ds : List D}, D.liteL ds → PyData.canLayAll0 (D.pyL ds) = true
  | [], _ => rfl
  | x :: r, h => by
    simp only [D.liteL] at h
    simp only [D.pyL, PyData.canLayAll0, lite_lay h.1, lite_layL h.2, Bool.and_self]
end
theorem log_lt' {i : Int} (h : i.natAbs < 2 ^ 1900) : i.natAbs.log2 < 1900 := by
  by_cases h0 : i.natAbs = 0
  · rw [h0]; decide
  · exact (Nat.log2_lt h0).mpr h
mutual
theorem lite_show : ∀ {d : D}, d.lite → d.py.showable = true
  | .non, _ => rfl
  | .bl _, _ => rfl
  | .int i, h => by
    simp only [D.lite] at h
    have := log_lt' h
    simp only [D.py, PyData.showable, decide_eq_true_eq]
    omega
  | .str _, h => rfl
  | .tup xs, h => by have := lite_showL (ds := xs) (by simpa only [D.lite] using h); simpa only [D.py, PyData.showable] using this
  | .lst xs, h => by have := lite_showL (ds := xs) (by simpa only [D.lite] using h); simpa only [D.py, PyData.showable] using this
  | .obj _ _ _, h => by simp only [D.lite] at h
  | .ref _, h => by simp only [D.lite] at h
  | .scr _, h => by simp only [D.lite] at h
  | .dct _ _, h => by simp only [D.lite] at h
theorem lite_showL : ∀ {ds : List D}, D.liteL ds → PyData.showableAll (D.pyL ds) = true
  | [], _ => rfl
  | x :: r, h => by
    simp only [D.liteL] at h
    simp only [D.pyL, PyData.showableAll, lite_show h.1, lite_showL h.2, Bool.and_self]
end
mutual
theorem lite_short : ∀ {d : D}, d.lite → d.py.leavesShort 2000 = true
  | .non, _ => rfl
  | .bl _, _ => rfl
  | .int i, h => by
    simp only [D.lite] at h
    have h1 := int_text_length_le (a := i) (k := 1900) (by decide) (log_lt' h)
    have e : (PyData.shown (.int i)).length = (toString i).length := by
      show (Str.ofString (toString i)).length = _
      exact PySem.ofString_length _
    simp only [D.py, PyData.leavesShort, decide_eq_true_eq]
    omega
  | .str _, h => by simp only [D.lite] at h; simp only [D.py, PyData.leavesShort]; exact h.2.2
  | .tup xs, h => by have := lite_shortL (ds := xs) (by simpa only [D.lite] using h); simpa only [D.py, PyData.leavesShort] using this
  | .lst xs, h => by have := lite_shortL (ds := xs) (by simpa only [D.lite] using h); simpa only [D.py, PyData.leavesShort] using this
  | .obj _ _ _, h => by simp only [D.lite] at h
  | .ref _, h => by simp only [D.lite] at h
  | .scr _, h => by simp only [D.lite] at h
  | .dct _ _, h => by simp only [D.lite] at h
theorem lite_shortL : ∀ {ds : List D}, D.liteL ds → PyData.leavesShortAll 2000 (D.pyL ds) = true
  | [], _ => rfl
  | x :: r, h => by
    simp only [D.liteL] at h
    simp only [D.pyL, PyData.leavesShortAll, lite_short h.1, lite_shortL h.2, Bool.and_self]
end
/-- data with small numbers has a text -/
theorem lite_shOk {d : D} (h : d.lite) (hb : d.py.bulk ≤ 4000) (hd : d.py.depth ≤ 64) : d.shOk := by
  refine ⟨⟨lite_isPy h, ?_⟩, lite_show h, ?_⟩
  · unfold SeqAt.shaped
    simp only [lite_lay h, Bool.true_and, decide_eq_true_eq]
    exact hd
  · have h1 := PyData.shown_le_bulk 2000 (by decide) d.py (lite_short h)
    have h2 : (2000 + 2) * d.py.bulk ≤ 2002 * 4000 := Nat.mul_le_mul_left _ hb
    rw [sizeLine_eq]
    omega
set_option exponentiation.threshold 3000 in
theorem Sz.lite {n : Nat} {i : Int} (h : Sz n i) (hn : n ≤ 1900) : (D.int i).lite := by
  simp only [D.lite]
  exact h.mono hn
end L2.G

namespace L2.G
open PySem PySem.Spec PyProof.Rows
/-! == of data, piece by piece -/
def eqDL (xs ys : List D) : Bool := PyData.eqvAll (D.pyL xs) (D.pyL ys)
section
variable {i j : Int} {b c : Bool} {s u : Str} {xs ys : List D} {d e : D}
theorem eqD_int : eqD (.int i) (.int j) = decide (i = j) := by unfold eqD; simp only [D.py, PyData.eqv]; by_cases h : i = j <;> simp [h]
theorem eqD_str : eqD (.str s) (.str u) = decide (s = u) := by unfold eqD; simp only [D.py, PyData.eqv]; by_cases h : s = u <;> simp [h]
theorem eqD_bl : eqD (.bl b) (.bl c) = decide (b = c) := by unfold eqD; simp only [D.py, PyData.eqv]; cases b <;> cases c <;> rfl
theorem eqD_nn : eqD .non .non = true := by unfold eqD; simp only [D.py, PyData.eqv]
theorem eqD_ni : eqD .non (.int i) = false := by unfold eqD; simp only [D.py, PyData.eqv]
theorem eqD_in : eqD (.int i) .non = false := by unfold eqD; simp only [D.py, PyData.eqv]
theorem eqD_nt : eqD .non (.tup xs) = false := by unfold eqD; simp only [D.py, PyData.eqv]
theorem eqD_tn : eqD (.tup xs) .non = false := by unfold eqD; simp only [D.py, PyData.eqv]
theorem eqD_tup : eqD (.tup xs) (.tup ys) = eqDL xs ys := by unfold eqD eqDL; simp only [D.py, PyData.eqv]
theorem eqD_lst : eqD (.lst xs) (.lst ys) = eqDL xs ys := by unfold eqD eqDL; simp only [D.py, PyData.eqv]
theorem eqDL_nil : eqDL [] [] = true := rfl
theorem eqDL_nc : eqDL [] (d :: xs) = false := rfl
theorem eqDL_cn : eqDL (d :: xs) [] = false := rfl
theorem eqDL_cons : eqDL (d :: xs) (e :: ys) = (eqD d e && eqDL xs ys) := rfl
end
theorem ok_cx {a b : Int} : (D.tup [.int a, .int b]).eqOk := ⟨rfl, rfl⟩
theorem ok_int {a : Int} : (D.int a).eqOk := ⟨rfl, rfl⟩
end L2.G

namespace L2.G
open PySem PySem.Spec PyProof.Rows
/-- lo, lo - 1, .. : n of them -/
def downL (lo : Int) : Nat → List D
  | 0 => [] | n + 1 => .int lo :: downL (lo - 1) n
def iR3 (fr : dA) : dI := fun ρ T k => fr ρ T fun as T1 => match as with
  | [.val (.int i), .val (.int j), .val (.int c)] => (c = -1 ∧ i - j ≤ 1000000 ∧ -(2 ^ 61) ≤ i ∧ i < 2 ^ 61 ∧ -(2 ^ 61) ≤ j ∧ j < 2 ^ 61) ∧ k (downL i (i - j).toNat) T1 | _ => False
section
variable {X : Cx} {tg : Expr} {fr : dA} {p pos : Pos}
end
/-- the whole root -/
def isq (n : Int) : Int := ((Float64.isqrt n.toNat : Nat) : Int)
theorem fSqrt_isq {i : Int} : fSqrt [.int i] = some (0 ≤ i ∧ i.natAbs < 2 ^ 13000, .int (isq i)) := rfl
end L2.G

namespace L2.G
open PySem PySem.Spec PyProof.Rows
section
variable {X : Cx} {a : Expr} {es : List Expr} {fa : dE} {fr : dA} {pos : Pos}
/-- x, y = a, [..] where y's list is its own -/
def sParO (i j : Nat) (fa : dE) (fr : dA) : dS := fun k ρ T => fa ρ T fun d T1 => fr ρ T1 fun as T2 => match vals? as with | some ds => ds.length ≤ 1000000 ∧ k.nx ((ρ.set i (some (.val d))).set j (some (.own ds))) T2 | none => False
/-- *e among arguments -/
theorem ArgL.app {K : PySem.W.Frag} {t : Option Addr} {F : Hp} {as : List SV} {ws : List V} (q : ArgL K t F as ws) : ∀ {xs : List D} {vs : List V}, RepL K F xs vs → ArgL K t F (xs.map SV.val ++ as) (vs ++ ws)
  | _, _, .nil => q
  | _, _, .cons r rr => .val r (ArgL.app q rr)
def aStar (fe : dE) (fr : dA) : dA := fun ρ T k => fe ρ T fun d T1 => match d.it? with | some xs => fr ρ T1 fun as T2 => k (xs.map SV.val ++ as) T2 | none => False
theorem a_star {e : Expr} {fe : dE} {p : Pos} (he : PEd X e fe) (hr : PAd X es fr) (hs : starEach (.Starred e p :: es) X.env = (true, eval e X.env) :: starEach es X.env := by rfl) : PAd X (.Starred e p :: es) (aStar fe fr) := by
  refine pa_imp (StX.pa_star he hr hs) fun σ H Q h => ?_
  obtain ⟨ρ, T, t, F, k, w, h, f⟩ := h
  refine ⟨ρ, T, t, F, _, w, h, fun v H1 F1 d T1 w1 g1 r1 h1 => ?_⟩
  cases d <;> first | exact h1.elim | skip
  · rename_i xs
    obtain ⟨a, vs, rfl, hq, hr⟩ := rep_tup r1
    exact ⟨a, vs, rfl, .inl (same_t w1.sub hq), ρ, T1, t, F1, _, w.grow g1 w1, h1, fun ys H2 F2 as T2 w2 g2 r2 h2 => f _ _ _ _ _ w2 (g1.trans g2) (r2.app (hr.mono g2.sub)) h2⟩
  · rename_i xs
    obtain ⟨a, vs, rfl, hq, hr⟩ := rep_lst r1
    exact ⟨a, vs, rfl, .inr (.of (w1.sub _ _ hq)), ρ, T1, t, F1, _, w.grow g1 w1, h1, fun ys H2 F2 as T2 w2 g2 r2 h2 => f _ _ _ _ _ w2 (g1.trans g2) (r2.app (hr.mono g2.sub)) h2⟩
end
end L2.G

namespace L2.G
open PySem PySem.Spec PyProof.Rows
/-! enumerate(e) over a list or a tuple -/
section
variable {X : Cx} {e : Expr} {fe : dE} {p pos tpos : Pos} {elts : List Expr} {kk : Nat}
def enD : Int → List D → List D
  | _, [] => [] | i, d :: r => .tup [.int i, d] :: enD (i + 1) r
def iEn (fe : dE) : dI := fun ρ T k => fe ρ T fun d T1 => match d.it? with | some xs => xs.length ≤ 1000000 ∧ k (enD 0 xs) T1 | none => False
end
end L2.G

namespace L2.G
open PySem PySem.Spec PyProof.Rows
/-! in, not in: over lists and tuples -/
def rInTD (K : PySem.W.Frag) : R2 := fun x y H Q => ∃ d ds, Dp K H x d ∧ Dp K H y (.tuple ds) ∧ SeqAt.shaped d = true ∧ SeqAt.shaped (.tuple ds) = true ∧ Q (.bl (ds.any fun z => PyData.eqv z d)) H
def rNotInTD (K : PySem.W.Frag) : R2 := fun x y H Q => ∃ d ds, Dp K H x d ∧ Dp K H y (.tuple ds) ∧ SeqAt.shaped d = true ∧ SeqAt.shaped (.tuple ds) = true ∧ Q (.bl (!ds.any fun z => PyData.eqv z d)) H
section
variable {X : Cx}
theorem op_inTD (hu : X.A.units + 65 < cLine) : OpR X (compareOp .In) (rInTD X.K) := by
  intro pins s σ H x y v u Q I rx ry h
  obtain ⟨d, ds, hd, he, sd, se, q⟩ := h
  obtain ⟨as, r1⟩ := Dp.reads I d x v hd rx
  obtain ⟨bs, r2⟩ := Dp.reads I (.tuple ds) y u he ry
  exact SeqAt.in_tuple_reads r2 r1 (SeqAt.canLay_of_shaped se) (SeqAt.canLay_of_shaped sd) (room_in_shaped sd hu) ⟨.bl _, H, I, rfl, q⟩
theorem op_notInTD (hu : X.A.units + 65 < cLine) : OpR X (compareOp .NotIn) (rNotInTD X.K) := by
  intro pins s σ H x y v u Q I rx ry h
  obtain ⟨d, ds, hd, he, sd, se, q⟩ := h
  obtain ⟨as, r1⟩ := Dp.reads I d x v hd rx
  obtain ⟨bs, r2⟩ := Dp.reads I (.tuple ds) y u he ry
  exact SeqAt.notIn_tuple_reads r2 r1 (SeqAt.canLay_of_shaped se) (SeqAt.canLay_of_shaped sd) (room_in_shaped sd hu) ⟨.bl _, H, I, rfl, q⟩
end
def fInS (x y : D) : PD := match y with | .lst ys => some (x.eqOk ∧ D.eqOk (.lst ys), .bl (ys.any fun z => eqD z x)) | .tup ys => some (x.eqOk ∧ D.eqOk (.tup ys), .bl (ys.any fun z => eqD z x)) | _ => none
def fNotInS (x y : D) : PD := match y with | .lst ys => some (x.eqOk ∧ D.eqOk (.lst ys), .bl (!ys.any fun z => eqD z x)) | .tup ys => some (x.eqOk ∧ D.eqOk (.tup ys), .bl (!ys.any fun z => eqD z x)) | _ => none
theorem fInS_lst {x : D} {ys : List D} : fInS x (.lst ys) = some (x.eqOk ∧ D.eqOk (.lst ys), .bl (ys.any fun z => eqD z x)) := rfl
theorem fInS_tup {x : D} {ys : List D} : fInS x (.tup ys) = some (x.eqOk ∧ D.eqOk (.tup ys), .bl (ys.any fun z => eqD z x)) := rfl
theorem fNotInS_lst {x : D} {ys : List D} : fNotInS x (.lst ys) = some (x.eqOk ∧ D.eqOk (.lst ys), .bl (!ys.any fun z => eqD z x)) := rfl
theorem fNotInS_tup {x : D} {ys : List D} : fNotInS x (.tup ys) = some (x.eqOk ∧ D.eqOk (.tup ys), .bl (!ys.any fun z => eqD z x)) := rfl
theorem fInS_ok {K : PySem.W.Frag} : OpS K (fun x y H Q => rInD K x y H Q ∨ rInTD K x y H Q) (oF fInS) := by
  intro t F H T x y v w k Q wt r1 r2 q f
  cases y <;> first | exact q.elim | skip
  · obtain ⟨⟨q1, q2⟩, q3⟩ := q
    refine .inr ⟨x.py, D.pyL _, r1.dp wt.sub q1.1, r2.dp wt.sub q2.1, q1.2, q2.2, ?_⟩
    rw [pyL_any]
    exact f.val wt (.bl _) q3
  · obtain ⟨⟨q1, q2⟩, q3⟩ := q
    refine .inl ⟨x.py, D.pyL _, r1.dp wt.sub q1.1, r2.dp wt.sub q2.1, q1.2, q2.2, ?_⟩
    rw [pyL_any]
    exact f.val wt (.bl _) q3
theorem fNotInS_ok {K : PySem.W.Frag} : OpS K (fun x y H Q => rNotInD K x y H Q ∨ rNotInTD K x y H Q) (oF fNotInS) := by
  intro t F H T x y v w k Q wt r1 r2 q f
  cases y <;> first | exact q.elim | skip
  · obtain ⟨⟨q1, q2⟩, q3⟩ := q
    refine .inr ⟨x.py, D.pyL _, r1.dp wt.sub q1.1, r2.dp wt.sub q2.1, q1.2, q2.2, ?_⟩
    rw [pyL_any]
    exact f.val wt (.bl _) q3
  · obtain ⟨⟨q1, q2⟩, q3⟩ := q
    refine .inl ⟨x.py, D.pyL _, r1.dp wt.sub q1.1, r2.dp wt.sub q2.1, q1.2, q2.2, ?_⟩
    rw [pyL_any]
    exact f.val wt (.bl _) q3
section
variable {X : Cx} {a b e : Expr} {fa fb fe : dE} {fr : dA} {p pos : Pos} {n : Nat} {es : List Expr} {tg : Expr}
theorem d_finS (hr : Room n X.A) (ha : PEd X a fa) (hb : PEd X b fb) (hm : behindInMarks .In b = false := by rfl) : PEd X (.Compare a [.In] [b] pos) (dOp (oF fInS) fa fb) := d_cmp ((op_inD (by have := room66 hr; omega)).or (op_inTD (by have := room66 hr; omega))) fInS_ok ha hb hm
theorem t_fniS (hr : Room n X.A) (ha : PEd X a fa) (hb : PEd X b fb) (hm : behindInMarks .NotIn b = false := by rfl) : PTd X (.Compare a [.NotIn] [b] pos) (dTst (dOp (oF fNotInS) fa fb)) := d_tcmp ((op_notInD (by have := room66 hr; omega)).or (op_notInTD (by have := room66 hr; omega))) fNotInS_ok ha hb hm
end

/-! own lists read for a while -/
mutual
def D.noL : D → Prop
  | .non => True | .bl _ => True | .int _ => True | .str _ => True | .tup xs => D.noLL xs | .lst _ => False | .obj _ _ _ => False | .ref _ => True | .scr _ => False | .dct _ _ => False
def D.noLL : List D → Prop
  | [] => True | x :: r => x.noL ∧ D.noLL r
end
def cutH (F : Hp) (l : Addr) : Hp := fun b => if b = l then none else F b
theorem cut_ne {F : Hp} {l b : Addr} (h : b ≠ l) : cutH F l b = F b := if_neg h
theorem cut_self {F : Hp} {l : Addr} : cutH F l l = none := if_pos rfl
theorem cut_t {K : PySem.W.Frag} {F : Hp} {l a : Addr} {lv xs : List V} (hl : F l = some (.lst lv)) (h : SqT K F a xs) : SqT K (cutH F l) a xs := by
  rcases h with (h | ⟨o, h⟩) | h
  · left; left
    rw [cut_ne (fun z => by rw [z, hl] at h; cases h)]; exact h
  · left; right
    exact ⟨o, by rw [cut_ne (fun z => by rw [z, hl] at h; cases h)]; exact h⟩
  · right; exact h
mutual
theorem noL_drop {K : PySem.W.Frag} {F : Hp} {l : Addr} {lv : List V} (hl : F l = some (.lst lv)) : ∀ {d : D} {v : V}, Rep K F d v → d.noL → Rep K (cutH F l) d v
  | _, _, .non, _ => .non
  | _, _, .bl b, _ => .bl b
  | _, _, .int i, _ => .int i
  | _, _, .str x, _ => .str x
  | _, _, .tup h q, n => .tup (cut_t hl h) (noLL_drop hl q (by simpa only [D.noL] using n))
  | _, _, .lst _ _, n => by simp only [D.noL] at n
  | _, _, .obj _ _ _, n => by simp only [D.noL] at n
  | _, _, .ref a h, _ => .ref a h
  | _, _, .scr _ _, n => by simp only [D.noL] at n
  | _, _, .dct _ _ _, n => by simp only [D.noL] at n
theorem noLL_drop {K : PySem.W.Frag} {F : Hp} {l : Addr} {lv : List V} (hl : F l = some (.lst lv)) : ∀ {ds : List D} {vs : List V}, RepL K F ds vs → D.noLL ds → RepL K (cutH F l) ds vs
  | _, _, .nil, _ => .nil
  | _, _, .cons h q, n => .cons (noL_drop hl h (by simp only [D.noLL] at n; exact n.1)) (noLL_drop hl q (by simp only [D.noLL] at n; exact n.2))
end
theorem Wd.frz {K : PySem.W.Frag} {ρ : En} {T : Tk} {t : Option Addr} {σ : L2.St} {F H : Hp} (w : Wd K ρ T t σ F H) {i : Nat} {xs : List D} (e : ρ[i]? = some (some (.own xs))) :
    ∃ l vs, F l = none ∧ Wd K (ρ.set i (some (.val (.lst xs)))) T t σ (upd F l (.lst vs)) H := by
  obtain ⟨v, hv, l, vs, rfl, hF, hH, r, nt⟩ := w.slot i _ e
  have sm : Same F (upd F l (.lst vs)) := same_upd hF
  have sub : Same (upd F l (.lst vs)) H := fun b u q => by
    by_cases hb : b = l
    · subst hb; rw [upd_same] at q; cases q; exact hH
    · rw [upd_ne hb] at q; exact w.wt.sub b u q
  have wt : Wt K T t (upd F l (.lst vs)) H := ⟨sub, fun a ea => by
    obtain ⟨n, us, hu, ru⟩ := w.wt.tank a ea
    have ne : a ≠ l := fun z => nt (by rw [ea, z])
    exact ⟨by rw [upd_ne ne]; exact n, us, hu, ru.mono sm⟩⟩
  refine ⟨l, vs, hF, wt, by simpa using w.len, fun j s ej => ?_, fun j j' ys zs m e1 e2 e3 e4 => ?_⟩
  · rcases getSet ej with ⟨rfl, _, e'⟩ | ⟨ne, e'⟩
    · cases e'
      exact ⟨.ref l, hv, .lst upd_same (r.mono sm)⟩
    · obtain ⟨u, h1, h2⟩ := w.slot j s e'
      refine ⟨u, h1, ?_⟩
      cases s with
      | val d => exact Rep.mono sm h2
      | tank => exact h2
      | own ys =>
        obtain ⟨m, us, rfl, f1, f2, f3, f4⟩ := h2
        have nm : m ≠ l := fun z => ne (w.apart i j xs ys l e e' hv (z ▸ h1))
        exact ⟨m, us, rfl, by rw [upd_ne nm]; exact f1, f2, f3.mono sm, f4⟩
  · rcases getSet e1 with ⟨_, _, z⟩ | ⟨n1, e1⟩
    · cases z
    · rcases getSet e2 with ⟨_, _, z⟩ | ⟨n2, e2⟩
      · cases z
      · exact w.apart j j' ys zs m e1 e2 e3 e4
theorem wt_cut {K : PySem.W.Frag} {T : Tk} {t : Option Addr} {F H : Hp} {l : Addr} {lv : List V} (hl : F l = some (.lst lv)) (w : Wt K T t F H) (n : D.noLL T) : Wt K T t (cutH F l) H :=
  ⟨fun b u q => by
    by_cases hb : b = l
    · rw [hb, cut_self] at q; cases q
    · rw [cut_ne hb] at q; exact w.sub b u q, fun a ea => by
    obtain ⟨n1, us, hu, ru⟩ := w.tank a ea
    refine ⟨?_, us, hu, noLL_drop hl ru n⟩
    by_cases hb : a = l
    · rw [hb, cut_self]
    · rw [cut_ne hb]; exact n1⟩
theorem grow_cut {t : Option Addr} {F H F1 H1 : Hp} {l : Addr} {lv : List V} (hF : F l = none) (g : Grow t (upd F l (.lst lv)) H F1 H1) : Grow t F H (cutH F1 l) H1 :=
  ⟨fun b u q => by
    have ne : b ≠ l := fun z => by rw [z, hF] at q; cases q
    rw [cut_ne ne]
    exact g.sub b u (by rw [upd_ne ne]; exact q), g.keep, fun a o h n => by
    by_cases hb : a = l
    · rw [hb, cut_self]
    · rw [cut_ne hb]; exact g.new a o h (by rw [upd_ne hb]; exact n), g.there⟩
def dView (i : Nat) (fe : dE) : dE := fun ρ T k => match ρ[i]? with | some (some (.own xs)) => fe (ρ.set i (some (.val (.lst xs)))) T fun d T1 => d.noL ∧ D.noLL T1 ∧ k d T1 | _ => fe ρ T k
def dViewT (i : Nat) (tc : dT) : dT := fun ρ T k => match ρ[i]? with | some (some (.own xs)) => tc (ρ.set i (some (.val (.lst xs)))) T fun d T1 => D.noLL T1 ∧ k d T1 | _ => tc ρ T k
section
variable {X : Cx} {e : Expr} {es : List Expr} {fe : dE} {fr : dA} {p pos : Pos} {st : Stmt} {f : dS}
theorem t_view (i : Nat) {tc : dT} (he : PTd X e tc) : PTd X e (dViewT i tc) := by
  refine pt_imp he fun σ H Q h => ?_
  obtain ⟨ρ, T, t, F, k, w, h, f⟩ := h
  unfold dViewT at h
  split at h
  · rename_i xs e0
    obtain ⟨l, vs, hF, w'⟩ := w.frz e0
    refine ⟨_, T, t, _, _, w', h, fun b H1 F1 T1 w1 g1 h1 => ?_⟩
    obtain ⟨n2, h1⟩ := h1
    have hl : F1 l = some (.lst vs) := g1.sub _ _ upd_same
    exact f b H1 (cutH F1 l) T1 (wt_cut hl w1 n2) (grow_cut hF g1) h1
  · exact ⟨ρ, T, t, F, k, w, h, f⟩
/-- it will not be changed any more, if it is own -/
def sFrq (i : Nat) (f : dS) : dS := fun k ρ T => match ρ[i]? with | some (some (.own xs)) => f k (ρ.set i (some (.val (.lst xs)))) T | _ => f k ρ T
theorem s_frq (i : Nat) (h : PSd X st f) : PSd X st (sFrq i f) := by
  refine ps_imp h fun E σ H h => ?_
  obtain ⟨ρ, T, t, F0, H0, F, k, w, h, fe⟩ := h
  unfold sFrq at h
  split at h
  · rename_i xs e
    obtain ⟨F', sm, w'⟩ := w.frz e
    exact ⟨_, T, t, F0, H0, F', k, w', h, fe.to sm⟩
  · exact ⟨ρ, T, t, F0, H0, F, k, w, h, fe⟩
/-- x[e] = .. in an own list -/
def gOs (i : Nat) (fe : dE) : dG := fun d ρ T k => match ρ[i]? with | some (some (.own xs)) => fe ρ T fun j T1 => (match j with | .int j => (match ixN xs.length j with | some m => k (ρ.set i (some (.own (xs.set m d)))) T1 | none => False) | _ => False) | _ => False
theorem g_oset (i : Nat) {x : Str} {p1 : Pos} (he : PEd X e fe) (hN : X.N[i]? = some x := by rfl) (hv : Vis X.env.scope x := by first | exact Or.inl rfl | exact Or.inr (Or.inl rfl) | exact Or.inr (Or.inr rfl))
    (hd : (x == ("__debug__" : Str)) = false := by decide) (hc : (x == ("__classdict__" : Str)) = false := by decide) (ha : ∀ v, assign (.Subscript (.Name x p1) e pos) X.env v = (do
      let ov ← holding [v] (eval (.Name x p1) X.env); let iv ← holding [v, ov] (eval e X.env); standAt pos; holding [v, ov, iv] (setItem ov iv v); release [v, ov, iv] []) := by intro _; rfl) : PGd X (.Subscript (.Name x p1) e pos) (gOs i fe) := by
  refine pg_imp (pg_sub (pe_var hN hv hd hc) he set_list ha) fun v σ H Q h => ?_
  obtain ⟨ρ, T, t, F0, H0, F, d, k, w, r, h, f⟩ := h
  unfold gOs at h
  split at h
  · rename_i xs e0
    obtain ⟨v0, hσ, l, vs, rfl, hF, hH, rr, nt⟩ := w.w.slot i _ e0
    refine ⟨_, hσ, ρ, T, t, F, _, w.w, h, fun u H1 F1 j T1 w1 g1 r1 h1 => ?_⟩
    split at h1
    · split at h1
      · rename_i e1
        cases r1
        have hH1 := g1.keep _ _ hH nt
        rw [rr.len] at e1
        exact ⟨l, vs, _, _, rfl, rfl, hH1, e1, f _ _ _ _ _ ((w.grow g1 w1).chg e0 hσ ((rr.mono g1.sub).set (r.mono g1.sub) _)) g1.sub h1⟩
      · exact h1.elim
    · exact h1.elim
  · exact h.elim

/-! a def that hands back a list of its own -/
def OkN (P : Program) (w : World) (K : PySem.W.Frag) (mg : Str → Option Value) (base : Heap) (n : Nat) (x : Str) (ps : List Str) (sem : Sem) : Prop :=
  ∃ f fd, mg x = some (.ref f) ∧ PySem.W.keepIn K (.ref f) = true ∧ Binds K fd ps [] ∧ (∀ (s : Shared) (ws : List Value), K.In s.heap → ws.length = ps.length → BindsTo s fd ⟨[], ps.zip ws⟩ (ps.zip ws)) ∧ GFn P w K mg base CX0 n f fd ps (spO K ps.length sem) ∧ ∃ oc od osl, K.lookup f = some ⟨oc, od, .func fd, osl⟩
theorem fin_own {K : PySem.W.Frag} {t : Option Addr} {F H : Hp} {T : Tk} {k : KD} {Q : VK} (w : Wt K T t F H) (f : Fin K t F H k Q) : FinO K t F H k Q := by
  intro l lv H' F' xs T' w' g' hl hF' hH' r' q
  have nt : ∀ a, t = some a → a ≠ l := fun a ea z => by
    obtain ⟨_, us, hu, _⟩ := w.tank a ea
    rw [z, hl] at hu
    cases hu
  have sm : Same F' (upd F' l (.lst lv)) := same_upd hF'
  refine f (.ref l) H' (upd F' l (.lst lv)) (.lst xs) T' ⟨fun b u e => ?_, fun a ea => ?_⟩ ⟨g'.sub.trans sm, g'.keep, fun a o h n => ?_, g'.there⟩ (.lst upd_same (r'.mono sm)) q
  · by_cases hb : b = l
    · subst hb; rw [upd_same] at e; cases e; exact hH'
    · rw [upd_ne hb] at e; exact w'.sub b u e
  · obtain ⟨n1, us, hu, ru⟩ := w'.tank a ea
    exact ⟨by rw [upd_ne (nt a ea)]; exact n1, us, hu, ru.mono sm⟩
  · have ne : a ≠ l := fun z => by rw [z, hl] at h; cases h
    rw [upd_ne ne]
    exact g'.new a o h n
theorem OkN.ok {P : Program} {w : World} {K : PySem.W.Frag} {mg : Str → Option Value} {base : Heap} {n : Nat} {x : Str} {ps : List Str} {sem : Sem} (h : OkN P w K mg base n x ps sem) : Ok P w K mg base n x ps sem :=
  let ⟨f, fd, h1, h2, h3, h4, h5, h6⟩ := h
  ⟨f, fd, h1, h2, h3, h4, h5.imp (fun vs H Q E ⟨q1, F, t, T, as, k, a, b, c, d⟩ => ⟨q1, F, t, T, as, k, a, b, c, fin_own b d⟩), h6⟩
theorem OkN.mono {P : Program} {w : World} {K : PySem.W.Frag} {mg : Str → Option Value} {base : Heap} {m n : Nat} {x : Str} {ps : List Str} {sem : Sem} (h : OkN P w K mg base m x ps sem) (l : m ≤ n) : OkN P w K mg base n x ps sem :=
  let ⟨f, fd, h1, h2, h3, h4, h5, h6⟩ := h; ⟨f, fd, h1, h2, h3, h4, h5.mono l, h6⟩
variable {y : Str} {n m : Nat} {ps qs : List Str} {so : Sem} {q pos2 : Pos} {a b : Expr} {fa fb : dE}
/-- x = f(..), f's list x's own -/
def sOwnC (i m : Nat) (so : Sem) (fr : dA) : dS := fun k ρ T => fr ρ T fun as T1 => as.length = m ∧ so as T1 fun d T2 => match d with | .lst xs => k.nx (ρ.set i (some (.own xs))) T2 | _ => False
/-- x, y = a, f(..) with y's list its own -/
def sParC (i j m : Nat) (so : Sem) (fa : dE) (fr : dA) : dS := fun k ρ T => fa ρ T fun d T1 => fr ρ T1 fun as T2 => as.length = m ∧ so as T2 fun d2 T3 => match d2 with | .lst xs => k.nx ((ρ.set i (some (.val d))).set j (some (.own xs))) T3 | _ => False
/-- x, y, z = a, b, f(..) with z's list its own -/
def sPar3C (i j l m : Nat) (so : Sem) (fa fb : dE) (fr : dA) : dS := fun k ρ T => fa ρ T fun d T1 => fb ρ T1 fun d' T1 => fr ρ T1 fun as T2 => as.length = m ∧ so as T2 fun d2 T3 => match d2 with | .lst xs => k.nx (((ρ.set i (some (.val d))).set j (some (.val d'))).set l (some (.own xs))) T3 | _ => False
end
theorem noL_int {i : Int} : (D.int i).noL = True := by simp only [D.noL]
theorem noL_bl {i : Bool} : (D.bl i).noL = True := by simp only [D.noL]
theorem noL_str {i : Str} : (D.str i).noL = True := by simp only [D.noL]
theorem noL_non : D.non.noL = True := by simp only [D.noL]
theorem noL_tup {xs : List D} : (D.tup xs).noL = D.noLL xs := by simp only [D.noL]
theorem noLL_nil : D.noLL [] = True := by simp only [D.noLL]
theorem noLL_cons {x : D} {xs : List D} : D.noLL (x :: xs) = (x.noL ∧ D.noLL xs) := by simp only [D.noLL]
/-! unpacking of a tuple or a list -/
def gTL (n : Nat) (gs : dGs) : dG := fun d ρ T k => match d.it? with | some ds => ds.length = n ∧ gs ds ρ T k | none => False
theorem g_unp {X : Cx} {pos : Pos} {tgs : List Expr} {j : Nat} {gs : dGs} {n : Nat} (hc : X.calm = true) (h : PGs X tgs (tDGs X.K gs)) (hn : (assignEach tgs X.env).length = n := by rfl) (hst : (assignEach tgs X.env).findIdx? (·.1) = none := by rfl) : PGd X (.Tuple tgs j pos) (gTL n gs) := by
  have key : PG X (.Tuple tgs j pos) (fun v σ H Q => gTup X.K n (tDGs X.K gs) v σ H Q ∨ gUnl X.K n (tDGs X.K gs) v σ H Q) := ⟨fun pins s σ H v u Q I r q => q.elim (fun q => (pg_tup hc h hn hst).run pins s σ H v u Q I r q) (fun q => (pg_unl hc h hn hst).run pins s σ H v u Q I r q)⟩
  refine pg_imp key fun v σ H Q h => ?_
  obtain ⟨ρ, T, t, F0, H0, F, d, k, w, r, h, f⟩ := h
  cases d <;> first | exact h.elim | skip
  · obtain ⟨a, vs, rfl, h1, h2⟩ := rep_tup r
    exact .inl ⟨a, vs, rfl, same_t w.w.wt.sub h1, by rw [← h2.len]; exact h.1, ρ, T, t, F0, H0, F, _, k, w, h2, h.2, f⟩
  · obtain ⟨a, vs, rfl, h1, h2⟩ := rep_lst r
    exact .inr ⟨a, vs, rfl, .of (w.w.wt.sub _ _ h1), by rw [← h2.len]; exact h.1, ρ, T, t, F0, H0, F, _, k, w, h2, h.2, f⟩
end L2.G

namespace L2.G
open PySem PySem.Spec PyProof.Rows
/-! zip of two lists or of two tuples -/
def zip2 : List SV → Option (List D × List D)
  | [.val (.lst xs), .val (.lst ys)] => some (xs, ys)
  | [.val (.tup xs), .val (.tup ys)] => some (xs, ys)
  | _ => none
theorem zip2_lst {xs ys : List D} : zip2 [.val (.lst xs), .val (.lst ys)] = some (xs, ys) := rfl
theorem zip2_tup {xs ys : List D} : zip2 [.val (.tup xs), .val (.tup ys)] = some (xs, ys) := rfl
theorem zipD_nil {ys : List D} : zipD [] ys = [] := rfl
theorem zipD_cons {x y : D} {xs ys : List D} : zipD (x :: xs) (y :: ys) = .tup [x, y] :: zipD xs ys := rfl
def iZA (fr : dA) : dI := fun ρ T k => fr ρ T fun as T1 => match zip2 as with | some p => (zipD p.1 p.2).length ≤ 1000000 ∧ k (zipD p.1 p.2) T1 | none => False
end L2.G

namespace L2.G
open PySem PySem.Spec PyProof.Rows
/-! walking at the head: what stands behind is left as it is until the head is told -/
/-- an argument whose type names what is to be left as it is -/
structure Fz {α : Type} (a : α) : Type where
def callS (s : Sem) (as : List SV) (T : Tk) (k : KD) (fz : Fz k := ⟨⟩) : Prop := s as T k
theorem callS_eq {s : Sem} {as : List SV} {T : Tk} {k : KD} : callS s as T k = s as T k := propext Iff.rfl
def iteB (c : Bool) (p q : Prop) (fz : Fz (p, q) := ⟨⟩) : Prop := if c = true then p else q
theorem iteB_t {p q : Prop} : iteB true p q = p := propext Iff.rfl
theorem iteB_f {p q : Prop} : iteB false p q = q := propext Iff.rfl
theorem iteB_of {c : Bool} {p q : Prop} (h1 : c = true → p) (h2 : c = false → q) : iteB c p q := by cases c; exact h2 rfl; exact h1 rfl
theorem iteB_p {c : Bool} {p q : Prop} (h : c = true) (h1 : p) : iteB c p q := by rw [h]; exact h1
theorem iteB_n {c : Bool} {p q : Prop} (h : c = false) (h1 : q) : iteB c p q := by rw [h]; exact h1
theorem iteB_not {c : Bool} {p q : Prop} : iteB (!c) p q = iteB c q p := by cases c <;> rfl
theorem iteB_tt {p : Prop} {c : Bool} : iteB c p p = p := by cases c <;> rfl
def setE (ρ : En) (F : En → Prop) (fz : Fz F := ⟨⟩) : Prop := F ρ
theorem setE_go {ρ : En} {F : En → Prop} : setE ρ F = F ρ := propext Iff.rfl
def pdK (r : PD) (k : D → Prop) (fz : Fz k := ⟨⟩) : Prop := match r with | some p => p.1 ∧ k p.2 | none => False
theorem pdK_t {d : D} {k : D → Prop} : pdK (some (True, d)) k = k d := propext (and_iff_right trivial)
theorem pdK_c {P : Prop} {d : D} {k : D → Prop} : pdK (some (P, d)) k = (P ∧ k d) := propext Iff.rfl
theorem oF_pd {f : D → D → PD} {x y : D} {k : D → Prop} : oF f x y k = pdK (f x y) k := propext Iff.rfl
def varK (s : Option (Option SV)) (T : Tk) (k : KD) (fz : Fz k := ⟨⟩) : Prop := match s with | some (some (.val d)) => k d T | _ => False
theorem varK_go {d : D} {T : Tk} {k : KD} : varK (some (some (.val d))) T k = k d T := propext Iff.rfl
section
variable {ρ : En} {T S : Tk} {k : KD} {d e : D} {o : Op2} {fa fb fe : dE} {ta tb : dT} {fr : dA} {i j l n m : Nat} {as : List SV} {xs ys : List D} {K : dEnds} {f g : dS} {tg : dG} {fi : dI}
theorem h_var : dVar i ρ T k = varK ρ[i]? T k := propext Iff.rfl
theorem h_c : dC d ρ T k = k d T := propext Iff.rfl
theorem h_op : dOp o fa fb ρ T k = fa ρ T fun x T1 => fb ρ T1 fun y T2 => o x y fun d => k d T2 := propext Iff.rfl
/-- keeps a lambda from being taken for its function -/
def wr (p : Prop) : Prop := p
def negK (x : D) (T : Tk) (k : KD) (fz : Fz k := ⟨⟩) : Prop := match x with | .int i => k (.int (-i)) T | _ => False
theorem negK_go {i : Int} : negK (.int i) T k = k (.int (-i)) T := propext Iff.rfl
theorem h_neg : dNeg fa ρ T k = fa ρ T fun x T1 => negK x T1 k := propext Iff.rfl
def bolK (b : Bool) (T : Tk) (k : Bool → Tk → Prop) (fz : Fz k := ⟨⟩) : Prop := k b T
theorem bolK_go {b : Bool} {k : Bool → Tk → Prop} : bolK b T k = k b T := propext Iff.rfl
theorem h_isN : dIsN fa ρ T k = fa ρ T fun x T1 => bolK x.isNon T1 fun b T => k (.bl b) T := propext Iff.rfl
theorem h_notN : dNotN fa ρ T k = fa ρ T fun x T1 => bolK (!x.isNon) T1 fun b T => k (.bl b) T := propext Iff.rfl
def tstK (x : D) (T : Tk) (k : Bool → Tk → Prop) (fz : Fz k := ⟨⟩) : Prop := match x with | .bl c => k c T | _ => False
theorem tstK_go {b : Bool} {k : Bool → Tk → Prop} : tstK (.bl b) T k = k b T := propext Iff.rfl
theorem h_tst {k : Bool → Tk → Prop} : dTst fa ρ T k = fa ρ T fun x T1 => tstK x T1 k := propext Iff.rfl
def andK (c : Bool) (T : Tk) (F : (Bool → Tk → Prop) → Prop) (k : Bool → Tk → Prop) (fz : Fz k := ⟨⟩) : Prop := if c = true then F k else k false T
theorem andK_t {F : (Bool → Tk → Prop) → Prop} {k : Bool → Tk → Prop} : andK true T (fun k' => wr (F k')) k = F k := propext Iff.rfl
theorem andK_f {F : (Bool → Tk → Prop) → Prop} {k : Bool → Tk → Prop} : andK false T F k = k false T := propext Iff.rfl
theorem andK_p {c c2 : Bool} {k : Bool → Tk → Prop} : andK c T (fun k' => wr (k' c2 T)) k = k (c && c2) T := by cases c <;> rfl
theorem andK_q {c c2 : Bool} {P : Prop} {k : Bool → Tk → Prop} : andK c T (fun k' => wr (P ∧ k' c2 T)) k = ((c = true → P) ∧ k (c && c2) T) := by cases c <;> simp [andK, wr]
def orK (c : Bool) (T : Tk) (F : (Bool → Tk → Prop) → Prop) (k : Bool → Tk → Prop) (fz : Fz k := ⟨⟩) : Prop := if c = true then k true T else F k
theorem orK_t {F : (Bool → Tk → Prop) → Prop} {k : Bool → Tk → Prop} : orK true T F k = k true T := propext Iff.rfl
theorem orK_f {F : (Bool → Tk → Prop) → Prop} {k : Bool → Tk → Prop} : orK false T (fun k' => wr (F k')) k = F k := propext Iff.rfl
theorem orK_p {c c2 : Bool} {k : Bool → Tk → Prop} : orK c T (fun k' => wr (k' c2 T)) k = k (c || c2) T := by cases c <;> rfl
theorem orK_q {c c2 : Bool} {P : Prop} {k : Bool → Tk → Prop} : orK c T (fun k' => wr (P ∧ k' c2 T)) k = ((c = false → P) ∧ k (c || c2) T) := by cases c <;> simp [orK, wr]
theorem h_and {k : Bool → Tk → Prop} : dAnd ta tb ρ T k = ta ρ T fun c T1 => andK c T1 (fun k' => wr (tb ρ T1 k')) k := propext Iff.rfl
theorem h_or {k : Bool → Tk → Prop} : dOr ta tb ρ T k = ta ρ T fun c T1 => orK c T1 (fun k' => wr (tb ρ T1 k')) k := propext Iff.rfl
theorem h_not {k : Bool → Tk → Prop} : dNot ta ρ T k = ta ρ T fun c T1 => bolK (!c) T1 k := propext Iff.rfl

def andVK (x : D) (T : Tk) (F : KD → Prop) (k : KD) (fz : Fz k := ⟨⟩) : Prop := match x with | .bl c => if c = true then F k else k (.bl false) T | _ => False
theorem andVK_t {F : KD → Prop} : andVK (.bl true) T (fun k' => wr (F k')) k = F k := propext Iff.rfl
theorem andVK_f {F : KD → Prop} : andVK (.bl false) T F k = k (.bl false) T := propext Iff.rfl
theorem andVK_p {c c2 : Bool} : andVK (.bl c) T (fun k' => wr (k' (.bl c2) T)) k = k (.bl (c && c2)) T := by cases c <;> rfl
theorem andVK_q {c c2 : Bool} {P : Prop} : andVK (.bl c) T (fun k' => wr (P ∧ k' (.bl c2) T)) k = ((c = true → P) ∧ k (.bl (c && c2)) T) := by cases c <;> simp [andVK, wr]
def orVK (x : D) (T : Tk) (F : KD → Prop) (k : KD) (fz : Fz k := ⟨⟩) : Prop := match x with | .bl c => if c = true then k (.bl true) T else F k | _ => False
theorem orVK_t {F : KD → Prop} : orVK (.bl true) T F k = k (.bl true) T := propext Iff.rfl
theorem orVK_f {F : KD → Prop} : orVK (.bl false) T (fun k' => wr (F k')) k = F k := propext Iff.rfl
theorem orVK_p {c c2 : Bool} : orVK (.bl c) T (fun k' => wr (k' (.bl c2) T)) k = k (.bl (c || c2)) T := by cases c <;> rfl
theorem orVK_q {c c2 : Bool} {P : Prop} : orVK (.bl c) T (fun k' => wr (P ∧ k' (.bl c2) T)) k = ((c = false → P) ∧ k (.bl (c || c2)) T) := by cases c <;> simp [orVK, wr]
theorem h_andV : dAndV fa fb ρ T k = fa ρ T fun x T1 => andVK x T1 (fun k' => wr (fb ρ T1 k')) k := propext Iff.rfl
theorem h_orV : dOrV fa fb ρ T k = fa ρ T fun x T1 => orVK x T1 (fun k' => wr (fb ρ T1 k')) k := propext Iff.rfl
def notVK (x : D) (T : Tk) (k : KD) (fz : Fz k := ⟨⟩) : Prop := match x with | .bl c => k (.bl (!c)) T | _ => False
theorem notVK_go {b : Bool} : notVK (.bl b) T k = bolK (!b) T fun b T => k (.bl b) T := propext Iff.rfl
theorem h_notV : dNotV fa ρ T k = fa ρ T fun x T1 => notVK x T1 k := propext Iff.rfl
theorem h_if : dIf ta fa fb ρ T k = ta ρ T fun c T1 => iteB c (fa ρ T1 k) (fb ρ T1 k) := propext Iff.rfl
/-! arguments -/
theorem h_anil {k : List SV → Tk → Prop} : aNil ρ T k = k [] T := propext Iff.rfl
theorem h_acons {k : List SV → Tk → Prop} : aCons fe fr ρ T k = fe ρ T fun d T1 => fr ρ T1 fun as T2 => k (.val d :: as) T2 := propext Iff.rfl
def tnkK (s : Option (Option SV)) (P : Prop) (fz : Fz P := ⟨⟩) : Prop := (match s with | some (some .tank) => True | _ => False) ∧ P
theorem tnkK_go {P : Prop} : tnkK (some (some .tank)) P = P := propext (and_iff_right trivial)
theorem h_atank {k : List SV → Tk → Prop} : aTank i fr ρ T k = tnkK ρ[i]? (fr ρ T fun as T2 => k (.tank :: as) T2) := propext Iff.rfl
def sqK (o : Option (List D)) (k : List D → Prop) (fz : Fz k := ⟨⟩) : Prop := match o with | some xs => k xs | none => False
theorem sqK_go {k : List D → Prop} : sqK (some xs) k = k xs := propext Iff.rfl
theorem h_astar {k : List SV → Tk → Prop} : aStar fe fr ρ T k = fe ρ T fun d T1 => sqK d.it? fun xs => fr ρ T1 fun as T2 => k (xs.map SV.val ++ as) T2 := propext Iff.rfl
theorem h_tup : dTup fr ρ T k = fr ρ T fun as T1 => sqK (vals? as) fun ds => ds.length ≤ 1000000 ∧ k (.tup ds) T1 := propext Iff.rfl
theorem h_lst : dLst fr ρ T k = fr ρ T fun as T1 => sqK (vals? as) fun ds => ds.length ≤ 1000000 ∧ k (.lst ds) T1 := propext Iff.rfl
theorem vals_val : vals? (.val d :: as) = (vals? as).map (d :: ·) := rfl
theorem vals_nil : vals? [] = some [] := rfl
def callN (n : Nat) (s : Sem) (as : List SV) (T : Tk) (k : KD) (fz : Fz k := ⟨⟩) : Prop := as.length = n ∧ s as T k
theorem callN_go {n : Nat} {s : Sem} : callN n s as T k = (as.length = n ∧ callS s as T k) := propext Iff.rfl
theorem h_call {s : Sem} : dCall n s fr ρ T k = fr ρ T fun as T1 => callN n s as T1 k := propext Iff.rfl
def lstK (d : D) (k : List D → Prop) (fz : Fz k := ⟨⟩) : Prop := match d with | .lst xs => k xs | _ => False
theorem lstK_go {k : List D → Prop} : lstK (.lst xs) k = k xs := propext Iff.rfl
theorem h_callT {s so : Sem} : dCallT n s so fr ρ T k = fr ρ T fun as T1 => callN n so as T1 fun d T2 => lstK d fun xs => callS s [.tank] xs fun r _ => k r T2 := propext Iff.rfl
theorem h_blt {f : List D → PD} : dBlt (oG f) fr ρ T k = fr ρ T fun as T1 => sqK (vals? as) fun ds => pdK (f ds) fun d => k d T1 := propext Iff.rfl
def opK (o : Option D) (k : D → Prop) (fz : Fz k := ⟨⟩) : Prop := match o with | some d => k d | none => False
theorem opK_go {k : D → Prop} : opK (some d) k = k d := propext Iff.rfl
def intK (d : D) (k : Int → Prop) (fz : Fz k := ⟨⟩) : Prop := match d with | .int i => k i | _ => False
theorem intK_go {i : Int} {k : Int → Prop} : intK (.int i) k = k i := propext Iff.rfl
theorem h_psome {k : Option Int → Tk → Prop} : pSome fe ρ T k = fe ρ T fun d T1 => intK d fun i => k (some i) T1 := propext Iff.rfl
theorem h_slq {lo hi : dP} : dSlQ fe lo hi ρ T k = fe ρ T fun x T1 => lo ρ T1 fun l T2 => hi ρ T2 fun h T3 => opK (x.cut? l h) fun d => k d T3 := propext Iff.rfl
def blqK (o : Option Bool) (T : Tk) (k : KD) (fz : Fz k := ⟨⟩) : Prop := match o with | some r => k (.bl r) T | none => False
theorem blqK_go {b : Bool} : blqK (some b) T k = k (.bl b) T := propext Iff.rfl
theorem h_isi {t : Ty} : dIsi t fe ρ T k = fe ρ T fun d T1 => blqK (isTy t d) T1 k := propext Iff.rfl
/-! walks -/
theorem h_iQ {k : List D → Tk → Prop} : iQ fe ρ T k = fe ρ T fun d T1 => sqK d.it? fun xs => xs.length ≤ 1000000 ∧ k xs T1 := propext Iff.rfl
def r1K (as : List SV) (T : Tk) (k : List D → Tk → Prop) (fz : Fz k := ⟨⟩) : Prop := match as with | [.val (.int j)] => (j ≤ 1000000 ∧ -(2 ^ 62) ≤ j) ∧ k (intsL 0 j.toNat) T | _ => False
theorem r1K_go {j : Int} {k : List D → Tk → Prop} : r1K [.val (.int j)] T k = ((j ≤ 1000000 ∧ -(2 ^ 62) ≤ j) ∧ k (intsL 0 j.toNat) T) := propext Iff.rfl
theorem h_iR1 {k : List D → Tk → Prop} : iR1 fr ρ T k = fr ρ T fun as T1 => r1K as T1 k := by
  unfold iR1; congr 1; funext as T1; unfold r1K; split <;> simp only [and_assoc]
def r2K (as : List SV) (T : Tk) (k : List D → Tk → Prop) (fz : Fz k := ⟨⟩) : Prop := match as with | [.val (.int i), .val (.int j)] => (j - i ≤ 1000000 ∧ -(2 ^ 61) ≤ i ∧ i < 2 ^ 61 ∧ -(2 ^ 61) ≤ j ∧ j < 2 ^ 61) ∧ k (intsL i (j - i).toNat) T | _ => False
theorem r2K_go {i j : Int} {k : List D → Tk → Prop} : r2K [.val (.int i), .val (.int j)] T k = ((j - i ≤ 1000000 ∧ -(2 ^ 61) ≤ i ∧ i < 2 ^ 61 ∧ -(2 ^ 61) ≤ j ∧ j < 2 ^ 61) ∧ k (intsL i (j - i).toNat) T) := propext Iff.rfl
theorem h_iR2 {k : List D → Tk → Prop} : iR2 fr ρ T k = fr ρ T fun as T1 => r2K as T1 k := propext Iff.rfl
def r3K (as : List SV) (T : Tk) (k : List D → Tk → Prop) (fz : Fz k := ⟨⟩) : Prop := match as with | [.val (.int i), .val (.int j), .val (.int c)] => (c = -1 ∧ i - j ≤ 1000000 ∧ -(2 ^ 61) ≤ i ∧ i < 2 ^ 61 ∧ -(2 ^ 61) ≤ j ∧ j < 2 ^ 61) ∧ k (downL i (i - j).toNat) T | _ => False
theorem r3K_go {i j c : Int} {k : List D → Tk → Prop} : r3K [.val (.int i), .val (.int j), .val (.int c)] T k = ((c = -1 ∧ i - j ≤ 1000000 ∧ -(2 ^ 61) ≤ i ∧ i < 2 ^ 61 ∧ -(2 ^ 61) ≤ j ∧ j < 2 ^ 61) ∧ k (downL i (i - j).toNat) T) := propext Iff.rfl
theorem h_iR3 {k : List D → Tk → Prop} : iR3 fr ρ T k = fr ρ T fun as T1 => r3K as T1 k := propext Iff.rfl
def zpK (o : Option (List D × List D)) (T : Tk) (k : List D → Tk → Prop) (fz : Fz k := ⟨⟩) : Prop := match o with | some p => (zipD p.1 p.2).length ≤ 1000000 ∧ k (zipD p.1 p.2) T | none => False
theorem zpK_go {k : List D → Tk → Prop} : zpK (some (xs, ys)) T k = ((zipD xs ys).length ≤ 1000000 ∧ k (zipD xs ys) T) := propext Iff.rfl
theorem h_iZA {k : List D → Tk → Prop} : iZA fr ρ T k = fr ρ T fun as T1 => zpK (zip2 as) T1 k := propext Iff.rfl
theorem h_iEn {k : List D → Tk → Prop} : iEn fe ρ T k = fe ρ T fun d T1 => sqK d.it? fun xs => xs.length ≤ 1000000 ∧ k (enD 0 xs) T1 := propext Iff.rfl
/-! statements -/
theorem h_seq : sSeq f g K ρ T = f { K with nx := g K } ρ T := propext Iff.rfl
theorem h_ret : sRet fe K ρ T = fe ρ T K.rt := propext Iff.rfl
theorem h_expr : sExpr fe K ρ T = fe ρ T fun _ T1 => K.nx ρ T1 := propext Iff.rfl
theorem h_sif : sIf ta f g K ρ T = ta ρ T fun c T1 => iteB c (f K ρ T1) (g K ρ T1) := propext Iff.rfl
theorem h_asg : sAsg fe tg K ρ T = fe ρ T fun d T1 => tg d ρ T1 K.nx := propext Iff.rfl
theorem h_gN {k : En → Tk → Prop} : gN i d ρ T k = setE (ρ.set i (some (.val d))) fun ρ => k ρ T := propext Iff.rfl
theorem h_gsnil {k : En → Tk → Prop} : gsNil [] ρ T k = k ρ T := propext (and_iff_right rfl)
theorem h_gscons {gs : dGs} {k : En → Tk → Prop} : gsCons tg gs (d :: xs) ρ T k = tg d ρ T fun ρ' T' => gs xs ρ' T' k := propext Iff.rfl
theorem h_gTL {gs : dGs} {k : En → Tk → Prop} : gTL n gs d ρ T k = sqK d.it? fun ds => ds.length = n ∧ gs ds ρ T k := propext Iff.rfl
theorem h_gT {gs : dGs} {k : En → Tk → Prop} : gT n gs (.tup xs) ρ T k = (xs.length = n ∧ gs xs ρ T k) := propext Iff.rfl
def parK (i j : Nat) (as : List SV) (ρ : En) (T : Tk) (k : En → Tk → Prop) (fz : Fz k := ⟨⟩) : Prop := match as with | [.val d, .val e] => k ((ρ.set i (some (.val d))).set j (some (.val e))) T | _ => False
theorem parK_go {k : En → Tk → Prop} : parK i j [.val d, .val e] ρ T k = setE ((ρ.set i (some (.val d))).set j (some (.val e))) fun ρ => k ρ T := propext Iff.rfl
theorem h_par : sPar i j fr K ρ T = fr ρ T fun as T1 => parK i j as ρ T1 K.nx := propext Iff.rfl
def parK3 (i j l : Nat) (as : List SV) (ρ : En) (T : Tk) (k : En → Tk → Prop) (fz : Fz k := ⟨⟩) : Prop := match as with | [.val d, .val e, .val f] => k (((ρ.set i (some (.val d))).set j (some (.val e))).set l (some (.val f))) T | _ => False
theorem parK3_go {c : D} {k : En → Tk → Prop} : parK3 i j l [.val d, .val e, .val c] ρ T k = setE (((ρ.set i (some (.val d))).set j (some (.val e))).set l (some (.val c))) fun ρ => k ρ T := propext Iff.rfl
theorem h_par3 : sPar3 i j l fr K ρ T = fr ρ T fun as T1 => parK3 i j l as ρ T1 K.nx := propext Iff.rfl
theorem h_parO : sParO i j fa fr K ρ T = fa ρ T fun d T1 => fr ρ T1 fun as T2 => sqK (vals? as) fun ds => ds.length ≤ 1000000 ∧ setE ((ρ.set i (some (.val d))).set j (some (.own ds))) fun ρ => K.nx ρ T2 := propext Iff.rfl
theorem h_parC {so : Sem} : sParC i j m so fa fr K ρ T = fa ρ T fun d T1 => fr ρ T1 fun as T2 => callN m so as T2 fun d2 T3 => lstK d2 fun xs => setE ((ρ.set i (some (.val d))).set j (some (.own xs))) fun ρ => K.nx ρ T3 := propext Iff.rfl
theorem h_par3C {so : Sem} : sPar3C i j l m so fa fb fr K ρ T = fa ρ T fun d T1 => fb ρ T1 fun d' T1 => fr ρ T1 fun as T2 => callN m so as T2 fun d2 T3 => lstK d2 fun xs => setE (((ρ.set i (some (.val d))).set j (some (.val d'))).set l (some (.own xs))) fun ρ => K.nx ρ T3 := propext Iff.rfl
theorem h_own : sOwn i fr K ρ T = fr ρ T fun as T1 => sqK (vals? as) fun ds => ds.length ≤ 1000000 ∧ setE (ρ.set i (some (.own ds))) fun ρ => K.nx ρ T1 := propext Iff.rfl
theorem h_ownC {so : Sem} : sOwnC i m so fr K ρ T = fr ρ T fun as T1 => callN m so as T1 fun d T2 => lstK d fun xs => setE (ρ.set i (some (.own xs))) fun ρ => K.nx ρ T2 := propext Iff.rfl
def ownK (s : Option (Option SV)) (k : List D → Prop) (e : Prop) (fz : Fz (k, e) := ⟨⟩) : Prop := match s with | some (some (.own xs)) => k xs | _ => e
theorem ownK_o {k : List D → Prop} {e : Prop} : ownK (some (some (.own xs))) k e = k xs := propext Iff.rfl
theorem ownK_v {k : List D → Prop} {e : Prop} : ownK (some (some (.val d))) k e = e := propext Iff.rfl
theorem ownK_n {k : List D → Prop} {e : Prop} : ownK (some none) k e = e := propext Iff.rfl
theorem h_frz : sFrz i f K ρ T = ownK ρ[i]? (fun xs => setE (ρ.set i (some (.val (.lst xs)))) fun ρ => f K ρ T) False := propext Iff.rfl
theorem h_frq : sFrq i f K ρ T = ownK ρ[i]? (fun xs => setE (ρ.set i (some (.val (.lst xs)))) fun ρ => f K ρ T) (f K ρ T) := propext Iff.rfl
theorem h_app : sApp i fe K ρ T = ownK ρ[i]? (fun xs => fe ρ T fun d T1 => xs.length < 1000000 ∧ setE (ρ.set i (some (.own (xs ++ [d])))) fun ρ => K.nx ρ T1) False := propext Iff.rfl
theorem h_view : dView i fe ρ T k = ownK ρ[i]? (fun xs => setE (ρ.set i (some (.val (.lst xs)))) fun ρ => fe ρ T fun d T1 => d.noL ∧ D.noLL T1 ∧ k d T1) (fe ρ T k) := propext Iff.rfl
theorem h_viewT {k : Bool → Tk → Prop} : dViewT i ta ρ T k = ownK ρ[i]? (fun xs => setE (ρ.set i (some (.val (.lst xs)))) fun ρ => ta ρ T fun d T1 => D.noLL T1 ∧ k d T1) (ta ρ T k) := propext Iff.rfl
def natK (o : Option Nat) (k : Nat → Prop) (fz : Fz k := ⟨⟩) : Prop := match o with | some m => k m | none => False
theorem natK_go {k : Nat → Prop} : natK (some n) k = k n := propext Iff.rfl
theorem h_gOs {k : En → Tk → Prop} : gOs i fe d ρ T k = ownK ρ[i]? (fun xs => fe ρ T fun j T1 => intK j fun j => natK (ixN xs.length j) fun m => setE (ρ.set i (some (.own (xs.set m d)))) fun ρ => k ρ T1) False := propext Iff.rfl
/-! loops -/
def forK (g : dG) (f : dS) (k : dEnds) (xs : List D) (ρ : En) (T : Tk) (fz : Fz (g, f, k) := ⟨⟩) : Prop := forL g f k xs ρ T
theorem forK_nil : forK tg f K [] ρ T = K.nx ρ T := propext Iff.rfl
theorem forK_cons : forK tg f K (d :: xs) ρ T = tg d ρ T fun ρ1 T1 => f { nx := fun ρ T => forK tg f K xs ρ T, rt := K.rt, bk := K.nx, ct := fun ρ T => forK tg f K xs ρ T } ρ1 T1 := propext Iff.rfl
theorem h_for : sForI fi tg f K ρ T = fi ρ T fun xs T1 => forK tg f K xs ρ T1 := propext Iff.rfl
def lcK (ρ : En) (c : dC1) (tt : dT) (el : dE) (k : List D → Tk → Prop) (xs acc : List D) (T : Tk) (fz : Fz (c, tt, el, k) := ⟨⟩) : Prop := lcD ρ c tt el k xs acc T
def enK (o : Option En) (k : En → Prop) (fz : Fz k := ⟨⟩) : Prop := match o with | some ρ => k ρ | none => False
theorem enK_go {k : En → Prop} : enK (some ρ) k = k ρ := propext Iff.rfl
variable {c : dC1} {el : dE} {kk : List D → Tk → Prop}
theorem lcK_nil : lcK ρ c ta el kk [] xs T = kk xs T := propext Iff.rfl
theorem lcK_cons : lcK ρ c ta el kk (d :: ys) xs T = enK (c d ρ) fun ρ1 => ta ρ1 T fun b T1 => iteB b (el ρ1 T1 fun y T2 => lcK ρ c ta el kk ys (xs ++ [y]) T2) (lcK ρ c ta el kk ys xs T1) := propext Iff.rfl
theorem h_lc {vs : List Nat} : dLc vs fi c ta el ρ T k = fi ρ T fun xs T1 => setE (wipeD ρ vs) fun ρ => lcK ρ c ta el (fun acc T2 => k (.lst acc) T2) xs [] T1 := propext Iff.rfl
theorem h_cN : cN i d ρ = some (ρ.set i (some (.val d))) := rfl
theorem h_cT {is : List Nat} : cT is (.tup xs) ρ = setAll is xs ρ := rfl
theorem h_yes {k : Bool → Tk → Prop} : dYes ρ T k = k true T := propext Iff.rfl
theorem setAll_nil : setAll [] [] ρ = some ρ := rfl
theorem setAll_cons {is : List Nat} : setAll (i :: is) (d :: xs) ρ = setAll is xs (ρ.set i (some (.val d))) := rfl
theorem wipe_nil : wipeD ρ [] = ρ := rfl
theorem wipe_cons {vs : List Nat} : wipeD ρ (i :: vs) = (wipeD ρ vs).set i none := rfl
end
/-! == of data without deep nests -/
mutual
def okN : Nat → D → Prop
  | _, .non => True | _, .bl _ => True | _, .int _ => True | _, .str x => PyData.strOk x = true
  | n, .tup xs => 0 < n ∧ okL (n - 1) xs | n, .lst xs => 0 < n ∧ okL (n - 1) xs | _, .obj _ _ _ => False | _, .ref _ => False | _, .scr _ => False | _, .dct _ _ => False
def okL : Nat → List D → Prop
  | _, [] => True
  | n, x :: r => okN n x ∧ okL n r
end
mutual
theorem okN_ok : ∀ {n : Nat} {d : D}, okN n d → d.isPy = true ∧ d.py.canLay0 = true ∧ d.py.depth ≤ n
  | n, .non, _ => ⟨rfl, rfl, Nat.zero_le _⟩
  | n, .bl _, _ => ⟨rfl, rfl, Nat.zero_le _⟩
  | n, .int _, _ => ⟨rfl, rfl, Nat.zero_le _⟩
  | n, .str x, h => by
    simp only [okN] at h
    exact ⟨rfl, by simp only [D.py, PyData.canLay0]; exact h, by simp only [D.py, PyData.depth]; exact Nat.zero_le _⟩
  | n, .tup xs, h => by
    simp only [okN] at h
    obtain ⟨h1, h2, h3⟩ := okL_ok h.2
    refine ⟨by simpa only [D.isPy] using h1, by simpa only [D.py, PyData.canLay0] using h2, ?_⟩
    simp only [D.py, PyData.depth]
    omega
  | n, .lst xs, h => by
    simp only [okN] at h
    obtain ⟨h1, h2, h3⟩ := okL_ok h.2
    refine ⟨by simpa only [D.isPy] using h1, by simpa only [D.py, PyData.canLay0] using h2, ?_⟩
    simp only [D.py, PyData.depth]
    omega
  | n, .obj _ _ _, h => by simp only [okN] at h
  | n, .ref _, h => by simp only [okN] at h
  | n, .scr _, h => by simp only [okN] at h
  | n, .dct _ _, h => by simp only [okN] at h
theorem okL_ok : ∀ {n : Nat} {xs : List D}, okL n xs → D.isPyL xs = true ∧ PyData.canLayAll0 (D.pyL xs) = true ∧ PyData.depthAll (D.pyL xs) ≤ n
  | n, [], _ => ⟨rfl, rfl, Nat.zero_le _⟩
  | n, x :: r, h => by
    simp only [okL] at h
    obtain ⟨a1, a2, a3⟩ := okN_ok h.1
    obtain ⟨b1, b2, b3⟩ := okL_ok h.2
    refine ⟨by simp only [D.isPyL, a1, b1, Bool.and_self], by simp only [D.pyL, PyData.canLayAll0, a2, b2, Bool.and_self], ?_⟩
    simp only [D.pyL, PyData.depthAll]
    omega
end
theorem okN_eqOk {d : D} (h : okN 60 d) : d.eqOk := by
  obtain ⟨h1, h2, h3⟩ := okN_ok h
  refine ⟨h1, ?_⟩
  unfold SeqAt.shaped
  simp only [h2, Bool.true_and, decide_eq_true_eq]
  omega
theorem okN_t {d : D} (h : okN 60 d) : d.eqOk = True := eq_true (okN_eqOk h)
section
variable {n : Nat} {d : D} {xs : List D} {i : Int} {b : Bool}
theorem okN_non : okN n .non = True := by simp only [okN]
theorem okN_int : okN n (.int i) = True := by simp only [okN]
theorem okN_bl : okN n (.bl b) = True := by simp only [okN]
theorem okN_tup : okN n (.tup xs) = (0 < n ∧ okL (n - 1) xs) := by simp only [okN]
theorem okN_lst : okN n (.lst xs) = (0 < n ∧ okL (n - 1) xs) := by simp only [okN]
theorem okL_nil : okL n [] = True := by simp only [okL]
theorem okL_cons : okL n (d :: xs) = (okN n d ∧ okL n xs) := by simp only [okL]
end
/-! == of unlike kinds -/
section
variable {i j : Int} {b : Bool} {s : Str} {xs ys : List D}
theorem fEq_it : fEq (.int i) (.tup xs) = some ((D.int i).eqOk ∧ (D.tup xs).eqOk, .bl (eqD (.int i) (.tup xs))) := rfl
theorem fEq_ti : fEq (.tup xs) (.int i) = some ((D.tup xs).eqOk ∧ (D.int i).eqOk, .bl (eqD (.tup xs) (.int i))) := rfl
theorem fEq_in : fEq (.int i) .non = some ((D.int i).eqOk ∧ D.non.eqOk, .bl (eqD (.int i) .non)) := rfl
theorem fEq_ni : fEq .non (.int i) = some (D.non.eqOk ∧ (D.int i).eqOk, .bl (eqD .non (.int i))) := rfl
theorem fNe_in : fNe (.int i) .non = some ((D.int i).eqOk ∧ D.non.eqOk, .bl (!eqD (.int i) .non)) := rfl
theorem fNe_ni : fNe .non (.int i) = some (D.non.eqOk ∧ (D.int i).eqOk, .bl (!eqD .non (.int i))) := rfl
end
end L2.G

namespace L2.G
open PySem PySem.Spec PyProof.Rows

/-! is, is not of truth values -/
def bIs (a b : Bool) : Bool := decide (a = b)
theorem bIs_t {a : Bool} : bIs a true = a := by cases a <;> rfl
theorem bIs_f {a : Bool} : bIs a false = !a := by cases a <;> rfl
theorem bIs_s {a : Bool} : bIs a a = true := by cases a <;> rfl
def fIs : D → D → PD | .bl i, .bl j => some (True, .bl (bIs i j)) | _, _ => none
def fIsn : D → D → PD | .bl i, .bl j => some (True, .bl (!bIs i j)) | _, _ => none
theorem fIs_bl {i j : Bool} : fIs (.bl i) (.bl j) = some (True, .bl (bIs i j)) := rfl
theorem fIsn_bl {i j : Bool} : fIsn (.bl i) (.bl j) = some (True, .bl (!bIs i j)) := rfl
def oIsB (g : Bool → Bool → Bool) : Op2 := fun x y k => match x, y with | .bl i, .bl j => k (.bl (g i j)) | _, _ => False
theorem oIsnB_ok {K : PySem.W.Frag} : OpS K rNotB (oIsB fun a b => !decide (a = b)) := by
  intro t F H T x y v w k Q wt r1 r2 q f
  unfold oIsB at q
  split at q
  · cases r1
    cases r2
    exact ⟨_, _, rfl, rfl, f.val wt (.bl _) q⟩
  · exact q.elim
theorem fIsn_ok {x y : D} {k : D → Prop} (h : oF fIsn x y k) : oIsB (fun a b => !decide (a = b)) x y k := by cases x <;> cases y <;> first | exact h.elim | exact h.2
section
variable {X : Cx} {a b e : Expr} {fa fb fe : dE} {pos : Pos}
theorem t_fisn (hm : behindInMarks .IsNot b = false := by rfl) (ha : PEd X a fa) (hb : PEd X b fb) : PTd X (.Compare a [.IsNot] [b] pos) (dTst (dOp (oF fIsn) fa fb)) := d_tcmp op_notBl (oIsnB_ok.imp fun _ _ _ => fIsn_ok) ha hb hm
end

/-! xs[::-1] of lists and tuples -/
section
variable {prog : Program} {w : World} {A : Around} {E : Value → Shared → Prop} {s : Shared}
end

section
variable {X : Cx} {e : Expr} {fe : dE}
def D.rev? : D → Option D | .lst xs => some (.lst xs.reverse) | .scr xs => some (.lst xs.reverse) | .tup xs => some (.tup xs.reverse) | _ => none
theorem rev_lst {xs : List D} : D.rev? (.lst xs) = some (.lst xs.reverse) := rfl
theorem rev_scr {xs : List D} : D.rev? (.scr xs) = some (.lst xs.reverse) := rfl
theorem rev_tup {xs : List D} : D.rev? (.tup xs) = some (.tup xs.reverse) := rfl
def dRev (fe : dE) : dE := fun ρ T k => fe ρ T fun x T1 => match x.rev? with | some d => k d T1 | none => False
theorem h_rev {ρ : En} {T : Tk} {k : KD} : dRev fe ρ T k = fe ρ T fun x T1 => opK x.rev? fun d => k d T1 := propext Iff.rfl
end

/-! x = [.. for ..], x a list that this def will change -/
section
variable {X : Cx} {tg : Expr} {pos : Pos}
def sLcO (i : Nat) (vs : List Nat) (fi : dI) (c : dC1) (tt : dT) (el : dE) : dS := fun k ρ T => fi ρ T fun xs T1 => lcD (wipeD ρ vs) c tt el (fun acc T2 => k.nx (ρ.set i (some (.own acc))) T2) xs [] T1
theorem h_lcO {i : Nat} {vs : List Nat} {fi : dI} {c : dC1} {ta : dT} {el : dE} {K : dEnds} {ρ : En} {T : Tk} : sLcO i vs fi c ta el K ρ T = fi ρ T fun xs T1 => setE (wipeD ρ vs) fun ρ' => lcK ρ' c ta el (fun acc T2 => setE (ρ.set i (some (.own acc))) fun ρ => K.nx ρ T2) xs [] T1 := propext Iff.rfl
end

/-! {} and {"x": e}: dicts that are only handed on -/
section
variable {X : Cx} {e : Expr} {fe : dE} {pos p1 : Pos} {j : Nat}
def dDct0 : dE := fun _ T k => k (.dct [] []) T
theorem h_dct0 {ρ : En} {T : Tk} {k : KD} : dDct0 ρ T k = k (.dct [] []) T := propext Iff.rfl
theorem d_dct0 : PEd X (.Dict [] [] pos) dDct0 := by
  refine pe_imp pe_dnewK fun σ H Q h => ?_
  obtain ⟨ρ, T, t, F, k, w, h, f⟩ := h
  exact fun p hp => f.dct0 w.wt hp h
def dDct1 (x : Str) (fe : dE) : dE := fun ρ T k => fe ρ T fun d T1 => k (.dct [.inr x] [d]) T1
theorem h_dct1 {x : Str} {ρ : En} {T : Tk} {k : KD} : dDct1 x fe ρ T k = fe ρ T fun d T1 => k (.dct [.inr x] [d]) T1 := propext Iff.rfl
end
theorem isTy_dct {T : Ty} {ks : List Key} {ds : List D} : isTy T (.dct ks ds) = some false := by cases T <;> rfl
theorem isNon_dct {ks : List Key} {ds : List D} : (D.dct ks ds).isNon = false := rfl
end L2.G

namespace L2.G
open PySem PySem.Spec PyProof.Rows
/-! the greatest of a list of ints -/
def mxL (n : Int) (r : List Int) : Int := r.foldl (fun a b => if b > a then b else a) n
def mxR : Option (List Int) → PD | some (n :: r) => some (True, .int (mxL n r)) | _ => none
def fMaxL : List D → PD | [.lst xs] => mxR (nums? xs) | _ => none
theorem fMaxL_lst {xs : List D} : fMaxL [.lst xs] = mxR (nums? xs) := rfl
theorem mxR_some {n : Int} {r : List Int} : mxR (some (n :: r)) = some (True, .int (mxL n r)) := rfl
section
variable {X : Cx} {a b e : Expr} {fa fb fe : dE} {fr : dA} {p pos : Pos} {n : Nat} {es : List Expr} {tg : Expr}
end
end L2.G

namespace L2.G
open PySem PySem.Spec PyProof.Rows
/-! arguments by name, in another order -/
def pmC {α : Type} (o : Option α) (r : List α) : List α := match o with | some x => x :: r | none => r
def permL {α : Type} : List Nat → List α → List α
  | [], _ => []
  | i :: is, xs => pmC xs[i]? (permL is xs)
section
variable {X : Cx} {CX : CXT} {n : Nat} {f : Addr} {fd : FuncData} {ps ks : List Str} {sp : Sp} {E : XK} {x : Str} {p pos : Pos} {kws : List Keyword} {tk : TA}
end
section
variable {X : Cx} {n : Nat} {x : Str} {ps ks : List Str} {sem : Sem} {p pos : Pos} {kws : List Keyword} {fr : dA} {st : Stmt} {is : List Nat}
def dCallP (n : Nat) (is : List Nat) (sem : Sem) (fr : dA) : dE := fun ρ T k => fr ρ T fun as T1 => as.length = n ∧ (permL is as).length = n ∧ sem (permL is as) T1 k
end
/-! the walker -/
def callP (n : Nat) (is : List Nat) (s : Sem) (as : List SV) (T : Tk) (k : KD) (fz : Fz k := ⟨⟩) : Prop := as.length = n ∧ (permL is as).length = n ∧ s (permL is as) T k
theorem h_callP {n : Nat} {is : List Nat} {s : Sem} {fr : dA} {ρ : En} {T : Tk} {k : KD} : dCallP n is s fr ρ T k = fr ρ T fun as T1 => callP n is s as T1 k := propext Iff.rfl
theorem callP_go {n : Nat} {is : List Nat} {s : Sem} {as : List SV} {T : Tk} {k : KD} : callP n is s as T k = (as.length = n ∧ (permL is as).length = n ∧ callS s (permL is as) T k) := propext Iff.rfl
theorem permL_n {α : Type} {xs : List α} : permL [] xs = [] := rfl
theorem permL_c {α : Type} {i : Nat} {is : List Nat} {xs : List α} : permL (i :: is) xs = pmC xs[i]? (permL is xs) := rfl
theorem pmC_s {α : Type} {x : α} {r : List α} : pmC (some x) r = x :: r := rfl
end L2.G

namespace L2.G
open PySem PySem.Spec PyProof.Rows
/-! sorted lists of tuples of ints, of either sign: over the library's sort of tuples by their keys -/
/-! over data -/
def tI (ns : List Int) : D := .tup (ns.map D.int)
/-- the order of tuples of one length -/
def lexLt : List Int → List Int → Bool
  | a :: r, b :: q => if a < b then true else if b < a then false else lexLt r q
  | _, _ => false
def insL (x : List Int) : List (List Int) → List (List Int)
  | [] => [x]
  | y :: r => if lexLt y x then y :: insL x r else x :: y :: r
def isort : List (List Int) → List (List Int)
  | [] => []
  | x :: r => insL x (isort r)
/-! the library's key of a tuple of ints -/
abbrev noS : Nat → Bool := fun _ => false
section
variable {X : Cx} {pins : List (Addr × Obj)} {σ : L2.St} {H : Hp} {s : Shared}
end
def tups? : List D → Option (List (List Int))
  | [] => some []
  | .tup xs :: r => match nums? xs, tups? r with | some n, some m => some (n :: m) | _, _ => none
  | _ :: _ => none
def TupsD (nss : List (List Int)) : Prop := nss.length < 64 ∧ ∃ d, 1 ≤ d ∧ ∀ n ∈ nss, n.length = d
def stR : Option (List (List Int)) → PD | some nss => some (TupsD nss, .lst ((isort nss).map tI)) | none => none
def fSortT : List D → PD | [.lst xs] => stR (tups? xs) | _ => none
theorem fSortT_lst {xs : List D} : fSortT [.lst xs] = stR (tups? xs) := rfl
theorem stR_some {n : List (List Int)} : stR (some n) = some (TupsD n, .lst ((isort n).map tI)) := rfl
section
variable {X : Cx} {e : Expr} {fr : dA} {p pos : Pos} {es : List Expr}
end
/-! bit_length -/
def bitI (i : Int) : Int := (Builtin.Int.intBits i : Nat)
def fBitL : D → D → PD | .int i, _ => some (True, .int (bitI i)) | _, _ => none
theorem fBitL_int {i : Int} {d : D} : fBitL (.int i) d = some (True, .int (bitI i)) := rfl
/-! short lists -/
theorem tups_nil : tups? [] = some [] := rfl
def tpC : Option (List Int) → Option (List (List Int)) → Option (List (List Int)) | some n, some m => some (n :: m) | _, _ => none
theorem tups_c {xs r : List D} : tups? (.tup xs :: r) = tpC (nums? xs) (tups? r) := rfl
theorem tpC_some {n : List Int} {m : List (List Int)} : tpC (some n) (some m) = some (n :: m) := rfl
end L2.G

namespace L2.G
open PySem PySem.Spec PyProof.Rows
/-! a call whose first arguments stand by place and whose later ones by name -/
def aApp (m n : Nat) (f g : dA) : dA := fun ρ T k => f ρ T fun as T1 => g ρ T1 fun bs T2 => as.length = m ∧ bs.length = n ∧ k (as ++ bs) T2
section
variable {X : Cx} {CX : CXT} {n m : Nat} {f : Addr} {fd : FuncData} {ps ks : List Str} {sp : Sp} {E : XK} {x : Str} {p pos : Pos} {e : Expr} {es : List Expr} {kws : List Keyword} {t tk : TA}
end
section
variable {X : Cx} {n m : Nat} {x : Str} {ps ks : List Str} {sem : Sem} {p pos : Pos} {e : Expr} {es : List Expr} {kws : List Keyword} {fa fr : dA} {st : Stmt} {is : List Nat}
end
/-! the walker -/
theorem h_aApp {m n : Nat} {f g : dA} {ρ : En} {T : Tk} {k : List SV → Tk → Prop} : aApp m n f g ρ T k = f ρ T fun as T1 => g ρ T1 fun bs T2 => as.length = m ∧ bs.length = n ∧ k (as ++ bs) T2 := propext Iff.rfl
end L2.G

namespace L2.G
open PySem PySem.Spec PyProof.Rows
/-! x, y = [..], a where x's list is its own -/
section
variable {X : Cx} {a : Expr} {es : List Expr} {fa : dE} {fr : dA} {pos : Pos}
def sParF (i j : Nat) (fr : dA) (fa : dE) : dS := fun k ρ T => fr ρ T fun as T1 => match vals? as with | some ds => ds.length ≤ 1000000 ∧ fa ρ T1 fun d T2 => k.nx ((ρ.set i (some (.own ds))).set j (some (.val d))) T2 | none => False
end
/-! the walker -/
theorem h_parF {i j : Nat} {fa : dE} {fr : dA} {K : dEnds} {ρ : En} {T : Tk} : sParF i j fr fa K ρ T = fr ρ T fun as T1 => sqK (vals? as) fun ds => ds.length ≤ 1000000 ∧ fa ρ T1 fun d T2 => setE ((ρ.set i (some (.own ds))).set j (some (.val d))) fun ρ => K.nx ρ T2 := propext Iff.rfl
end L2.G

namespace L2.G
open PySem PySem.Spec PyProof.Rows
/-! the head: what the top leaves, read by one run off the tree (nothing of the top is written out) -/
/-- the value u is the data d; g tells the object at an address -/
def repB (g : Addr → Option Obj) : Nat → D → Value → Bool
  | 0, _, _ => false
  | _ + 1, .int i, .int j _ => decide (i = j)
  | _ + 1, .str i, .str j _ => decide (i = j)
  | _ + 1, .bl i, .bool j => i == j
  | _ + 1, .non, .none => true
  | n + 1, .tup ds, .ref a => (match g a with
    | some ⟨.type c, _, .seq its _, _⟩ => decide (c = "tuple") && (Nat.ble its.size 1000000 && (Nat.beq ds.length its.toList.length && (ds.zip its.toList).all fun p => repB g n p.1 p.2))
    | _ => false)
  | _ + 1, _, _ => false
/-- the objects within a value -/
def inV (g : Addr → Option Obj) : Nat → Value → List Addr
  | 0, _ => []
  | n + 1, .ref a => a :: (match g a with
    | some ⟨_, _, .seq its _, _⟩ => its.toList.flatMap (inV g n)
    | _ => [])
  | _ + 1, _ => []
theorem repB_l {g : Addr → Option Obj} {K : PySem.W.Frag} {n : Nat} (ih : ∀ {d : D} {u : Value}, (∀ a ∈ inV g n u, ∀ o, g a = some o → K.lookup a = some o) → repB g n d u = true → GRep K d u) : ∀ {ds : List D} {us : List Value}, (∀ a ∈ us.flatMap (inV g n), ∀ o, g a = some o → K.lookup a = some o) → ds.length = us.length → ((ds.zip us).all fun p => repB g n p.1 p.2) = true → GRepL K ds us
  | [], [], _, _, _ => .nil
  | [], _ :: _, _, e, _ => by simp at e
  | _ :: _, [], _, e, _ => by simp at e
  | d :: ds, u :: us, k, e, h => by
    rw [List.zip_cons_cons, List.all_cons, Bool.and_eq_true] at h
    rw [List.flatMap_cons] at k
    exact .cons (ih (fun a q => k a (List.mem_append.mpr (.inl q))) h.1) (repB_l ih (fun a q => k a (List.mem_append.mpr (.inr q))) (by simpa using e) h.2)
theorem repB_ok {g : Addr → Option Obj} {K : PySem.W.Frag} : ∀ {n : Nat} {d : D} {u : Value}, (∀ a ∈ inV g n u, ∀ o, g a = some o → K.lookup a = some o) → repB g n d u = true → GRep K d u
  | 0, _, _, _, h => nomatch h
  | n + 1, d, u, k, h => by
    have ih := fun {d u} => repB_ok (g := g) (K := K) (n := n) (d := d) (u := u)
    cases d with
    | int i =>
      cases u with
      | int j t => have e : i = j := of_decide_eq_true h; subst e; exact .int _ _
      | _ => exact nomatch h
    | str i =>
      cases u with
      | str j t => have e : i = j := of_decide_eq_true h; subst e; exact .str _ _
      | _ => exact nomatch h
    | bl i =>
      cases u with
      | bool j => have e : i = j := eq_of_beq h; subst e; exact .bl _
      | _ => exact nomatch h
    | non =>
      cases u with
      | none => exact .non
      | _ => exact nomatch h
    | tup ds =>
      cases u with
      | ref a =>
        have h1 : (match g a with
          | some ⟨.type c, _, .seq its _, _⟩ => decide (c = "tuple") && (Nat.ble its.size 1000000 && (Nat.beq ds.length its.toList.length && (ds.zip its.toList).all fun p => repB g n p.1 p.2))
          | _ => false) = true := h
        have k1 : ∀ b ∈ a :: (match g a with
          | some ⟨_, _, .seq its _, _⟩ => its.toList.flatMap (inV g n)
          | _ => []), ∀ o, g b = some o → K.lookup b = some o := k
        cases q : g a with
        | none => rw [q] at h1; cases h1
        | some o =>
          have q2 := k1 a List.mem_cons_self o q
          obtain ⟨oc, od, dt, osl⟩ := o
          rw [q] at h1 k1
          cases oc with
          | type c =>
            cases dt with
            | seq its m =>
              have h2 : (decide (c = "tuple") && (Nat.ble its.size 1000000 && (Nat.beq ds.length its.toList.length && (ds.zip its.toList).all fun p => repB g n p.1 p.2))) = true := h1
              simp only [Bool.and_eq_true] at h2
              obtain ⟨a1, a2, a3, a4⟩ := h2
              have e := of_decide_eq_true a1
              subst e
              exact .tup q2 (repB_l ih (fun b qb => k1 b (List.mem_cons_of_mem _ qb)) (Nat.eq_of_beq_eq_true a3) a4) (Nat.le_of_ble_eq_true a2)
            | _ => cases h1
          | _ => cases dt <;> cases h1
      | _ => exact nomatch h
    | _ => cases u <;> exact nomatch h
/-- what is read: defs, names that stand for no name of the module, built-ins that were brought in, constants -/
structure Hd where
  defs : List (Str × Stmt)
  free : List Str
  blt : List (Str × String)
  cons : List (Str × D)
  cls : List Str := []
  prs : List (Str × Str) := []
def hdD (d : Str × Stmt) : He.FnD := ⟨(d.1, none), d.1, d.1, defArgs d.2, defBody d.2, defScope d.2⟩
def lkE (es : List DictEntry) (x : Str) : Option Value := (es.find? (·.key.isStr x)).map (·.val)
def codB (g : Addr → Option Obj) (cd : Value) (q : Str) : Bool := match cd with
  | .ref c => (match g c with
    | some ⟨_, _, .fields vs, _⟩ => (match vs.toList with
      | _ :: .str n _ :: _ => n == q
      | _ => false)
    | _ => false)
  | _ => false
/-- a def as the heap has it -/
def defV (g : Addr → Option Obj) (es : List DictEntry) (x : Str) : Bool × He.FnV := match lkE es x with
  | some (.ref f) => (match g f with
    | some ⟨_, _, .func fd, _⟩ => (codB g fd.code x, some (fd.name, fd.qualname, fd.params, fd.body, fd.scope, fd.globals, fd.closure, fd.defaults, fd.builtins))
    | _ => (false, none))
  | _ => (false, none)
def bltB (es : List DictEntry) (x : Str × String) : Bool := match lkE es x.1 with
  | some (.builtin m) => decide (m = x.2)
  | _ => false
def conB (g : Addr → Option Obj) (es : List DictEntry) (c : Str × D) : Bool := match lkE es c.1 with
  | some u => repB g 9 c.2 u
  | none => false
def adV : Value → List Addr
  | .ref a => [a]
  | _ => []
/-- the addresses that the facts lean on -/
def asOf (g : Addr → Option Obj) (es : List DictEntry) : List Addr := mainGlobals :: (es.flatMap fun e => adV e.val ++ ((adV e.val).flatMap fun f => match g f with
  | some ⟨_, _, .func fd, _⟩ => adV fd.code
  | _ => []) ++ inV g 9 e.val)
/-- the addresses of own classes -/
def clsAs (g : Addr → Option Obj) (es : List DictEntry) (cls : List Str) : List Addr := cls.flatMap fun x => match lkE es x with
  | some (.ref C) => (match g C with
    | some ⟨_, _, .cls cd, _⟩ => C :: cd.ns :: cd.mro.flatMap fun v => (match v with
      | .ref A => A :: (match g A with
        | some ⟨_, _, .cls cd2, _⟩ => [cd2.ns]
        | _ => [])
      | _ => [])
    | _ => [])
  | _ => []
/-- an own class without own __init__ over ValueError -/
def xcB (K : PySem.W.Frag) (C : Addr) : Bool := PySem.W.excIn K C PySem.HandSPX.veTail "ValueError.__new__" && (PySem.W.keepIn K (.ref C) && (PySem.W.subIn K (.ref C) (.type "BaseException") == some true && PySem.W.typeIn K (.ref C) == some (.type "type")))
def xcE (K : PySem.W.Frag) (es : List DictEntry) (x : Str) : Bool := match lkE es x with
  | some (.ref C) => xcB K C
  | _ => false
def prE (K : PySem.W.Frag) (es : List DictEntry) (p : Str × Str) : Bool := match lkE es p.1, lkE es p.2 with
  | some u, some (.ref C) => PySem.W.exmOne K u (.ref C) == some true
  | _, _ => false
abbrev HdA : Type := Bool × List (Bool × He.FnV)
def Hd.obsE (z : Hd) (g : Addr → Option Obj) (es : List DictEntry) : HdA :=
  (!es.any (·.refKey) && (z.free.all (fun x => (lkE es x).isNone) && (z.blt.all (bltB es) && (z.cons.all (conB g es) && (z.cls.all (xcE (He.frG g (clsAs g es z.cls ++ asOf g es)) es) && z.prs.all (prE (He.frG g (clsAs g es z.cls ++ asOf g es)) es))))), z.defs.map fun d => defV g es d.1)
def Hd.obsG (z : Hd) (g : Addr → Option Obj) : HdA := match g mainGlobals with
  | some ⟨_, _, .dict es _, _⟩ => z.obsE g es.toList
  | _ => (false, [])
def Hd.val (z : Hd) : HdA := (true, z.defs.map fun d => (true, (hdD d).val))
/-- a def stands in the module -/
def DefK (K : PySem.W.Frag) (d : Str × Stmt) : Prop := ∃ (f : Addr) (oc : Value) (od : Option Addr) (osl : Array (Option Value)) (kV doc pm : Value) (an : Option Addr) (cdv ct : Value), PySem.W.nsIn K mainGlobals d.1 = some (some (.ref f)) ∧
  K.lookup f = some ⟨oc, od, .func (PySem.W.fnOf d.1 d.1 (defArgs d.2) (defBody d.2) (defScope d.2) .none kV doc pm an cdv ct), osl⟩ ∧ PySem.W.codeIn K cdv d.1 = true
structure Hd.Says (z : Hd) (K : PySem.W.Frag) : Prop where
  d : ∀ d ∈ z.defs, DefK K d
  f : ∀ x ∈ z.free, PySem.W.nsIn K mainGlobals x = some none
  b : ∀ x ∈ z.blt, PySem.W.nsIn K mainGlobals x.1 = some (some (.builtin x.2))
  c : ∀ c ∈ z.cons, ∃ u, PySem.W.nsIn K mainGlobals c.1 = some (some u) ∧ GRep K c.2 u
  x : ∀ x ∈ z.cls, ∃ C, PySem.W.nsIn K mainGlobals x = some (some (.ref C)) ∧ xcB K C = true
  p : ∀ p ∈ z.prs, ∃ u C, PySem.W.nsIn K mainGlobals p.1 = some (some u) ∧ PySem.W.nsIn K mainGlobals p.2 = some (some (.ref C)) ∧ PySem.W.exmOne K u (.ref C) = some true
theorem frG_has {g : Addr → Option Obj} {a : Addr} {o : Obj} (h : g a = some o) : ∀ {as : List Addr}, a ∈ as → (He.frG g as).lookup a = some o
  | [], q => nomatch q
  | b :: r, q => by
    unfold He.frG
    rw [List.filterMap_cons]
    by_cases e : a = b
    · subst e
      rw [h]
      show List.lookup a ((a, o) :: _) = some o
      rw [List.lookup_cons]
      simp
    · have q2 : a ∈ r := (List.mem_cons.mp q).resolve_left e
      have ih := frG_has h q2
      cases gb : g b with
      | none => exact ih
      | some ob =>
        show List.lookup a ((b, ob) :: _) = some o
        rw [List.lookup_cons]
        have nb : (a == b) = false := by simpa using e
        rw [nb]
        exact ih
theorem map_same {α β : Type} {f g : α → β} : ∀ {l : List α}, l.map f = l.map g → ∀ x ∈ l, f x = g x
  | [], _, _, h => nomatch h
  | y :: r, e, x, h => by
    rw [List.map_cons, List.map_cons, List.cons.injEq] at e
    rcases List.mem_cons.mp h with rfl | h
    · exact e.1
    · exact map_same e.2 x h
theorem Hd.of_obs {z : Hd} {g : Addr → Option Obj} (e : z.obsG g = z.val) : ∃ as : List Addr, z.Says (He.frG g as) := by
  unfold Hd.obsG at e
  split at e
  · rename_i oc od es en osl hm
    refine ⟨clsAs g es.toList z.cls ++ asOf g es.toList, ?_⟩
    unfold Hd.obsE Hd.val at e
    generalize hK : He.frG g (clsAs g es.toList z.cls ++ asOf g es.toList) = K at e ⊢
    have has : ∀ {a : Addr} {o : Obj}, a ∈ asOf g es.toList → g a = some o → K.lookup a = some o := fun h q => by rw [← hK]; exact frG_has q (List.mem_append_right _ h)
    have lm : K.lookup mainGlobals = some ⟨oc, od, .dict es en, osl⟩ := has (List.mem_cons_self) hm
    obtain ⟨e1, e2⟩ := Prod.mk.inj e
    simp only [Bool.and_eq_true, Bool.not_eq_true'] at e1
    obtain ⟨r1, r2, r3, r4, r5, r6⟩ := e1
    have ns : ∀ x : Str, PySem.W.nsIn K mainGlobals x = some (lkE es.toList x) := fun x => by
      unfold PySem.W.nsIn lkE
      rw [lm]
      simp only
      cases q : es.toList.find? (·.key.isStr x) with
      | some v => rfl
      | none =>
        simp only
        rw [r1]
        rfl
    have inE : ∀ {x : Str} {u : Value}, lkE es.toList x = some u → ∃ en ∈ es.toList, en.val = u := fun {x u} h => by
      unfold lkE at h
      obtain ⟨en, h1, h2⟩ := Option.map_eq_some_iff.mp h
      exact ⟨en, List.mem_of_find?_eq_some h1, h2⟩
    refine ⟨fun d hd => ?_, fun x hx => ?_, fun x hx => ?_, fun c hc => ?_, fun x hx => ?_, fun p hp => ?_⟩
    · have e3 := map_same e2 d hd
      unfold defV at e3
      split at e3
      · rename_i f hf
        obtain ⟨en, me, ev⟩ := inE hf
        split at e3
        · rename_i oc2 od2 fd osl2 gf
          obtain ⟨n1, n2, n3, n4, n5, n6, n7, n8, n9, n10, n11, n12, n13, n14, n15⟩ := fd
          obtain ⟨c1, c2⟩ := Prod.mk.inj e3
          have c3 : (some (n1, n2, n3, n4, n5, n6, n7, n8, n15) : He.FnV) = some (d.1, d.1, defArgs d.2, .stmts (defBody d.2), defScope d.2, mainGlobals, [], .none, builtinsNs) := c2
          simp only [Option.some.injEq, Prod.mk.injEq] at c3
          obtain ⟨h1, h2, h3, h4, h5, h6, h7, h8, h9⟩ := c3
          subst h1 h2 h3 h4 h5 h6 h7 h8 h9
          have mf : f ∈ asOf g es.toList := List.mem_cons_of_mem _ (List.mem_flatMap.mpr ⟨en, me, by rw [ev]; simp [adV]⟩)
          refine ⟨f, oc2, od2, osl2, n9, n10, n11, n12, n13, n14, by rw [ns, hf], has mf gf, ?_⟩
          have c4 : codB g n13 d.1 = true := c1
          unfold codB at c4
          unfold PySem.W.codeIn
          cases n13 with
          | ref c =>
            simp only at c4 ⊢
            have mc : c ∈ asOf g es.toList := List.mem_cons_of_mem _ (List.mem_flatMap.mpr ⟨en, me, by rw [ev]; simp [adV, gf]⟩)
            cases gc : g c with
            | none => rw [gc] at c4; cases c4
            | some o =>
              rw [gc] at c4
              rw [has mc gc]
              exact c4
          | _ => cases c4
        · exact absurd (Prod.mk.inj e3).1 (by decide)
      · exact absurd (Prod.mk.inj e3).1 (by decide)
    · have q := List.all_eq_true.mp r2 x hx
      rw [ns, Option.isNone_iff_eq_none.mp q]
    · have q := List.all_eq_true.mp r3 x hx
      unfold bltB at q
      split at q
      · rename_i m hm2
        rw [ns, hm2, of_decide_eq_true q]
      · cases q
    · have q := List.all_eq_true.mp r4 c hc
      unfold conB at q
      split at q
      · rename_i u hu
        obtain ⟨en, me, ev⟩ := inE hu
        refine ⟨u, by rw [ns, hu], repB_ok (g := g) (fun a ha o ho => has (List.mem_cons_of_mem _ (List.mem_flatMap.mpr ⟨en, me, by rw [ev]; exact List.mem_append.mpr (.inr ha)⟩)) ho) q⟩
      · cases q
    · have q := List.all_eq_true.mp r5 x hx
      unfold xcE at q
      split at q
      · rename_i C hC
        exact ⟨C, by rw [ns, hC], q⟩
      · cases q
    · have q := List.all_eq_true.mp r6 p hp
      unfold prE at q
      split at q
      · rename_i u C h1 h2
        exact ⟨u, C, by rw [ns, h1], by rw [ns, h2], beq_iff_eq.mp q⟩
      · cases q
  · exact absurd (Prod.mk.inj e).1 (by decide)
def Hd.hook (z : Hd) : PySem.W.Hook where
  α := HdA
  obs := fun s => z.obsG s.heap.get?
  val := fun _ => z.val
  says := fun _ h => ∃ K : PySem.W.Frag, K.In h ∧ z.Says K
  of := fun _ _ e => let ⟨_, c⟩ := Hd.of_obs e; ⟨_, He.frG_in, c⟩
  keeps := fun _ _ _ ⟨K, hK, c⟩ k => ⟨K, PySem.W.Frag.In.keeps hK k, c⟩
theorem Hd.obs_eq {z : Hd} {g : Addr → Option Obj} {s : Shared} (h : ∀ a, g a = s.heap.get? a) : z.obsG g = z.hook.obs s := by
  have e : g = s.heap.get? := funext h
  rw [e] <;> rfl
section
variable {z : Hd} {K : PySem.W.Frag} {h : Heap} {mg : Str → Option Value}
theorem Hd.Says.df (X : K.In h) (G : h.Ns mainGlobals mg) (c : z.Says K) (i : Nat) {x : Str} {st : Stmt} (e : z.defs[i]? = some (x, st) := by rfl) : Df K mg x st := by
  obtain ⟨f, oc, od, osl, kV, doc, pm, an, cdv, ct, h1, l, cd⟩ := c.d _ (List.mem_of_getElem? e)
  exact ⟨_, _, fun_mk (st := st) l cd (by unfold PySem.W.keepIn; simp only at l ⊢; rw [l]), PySem.W.mg_of X G h1⟩
theorem Hd.Says.fr (X : K.In h) (G : h.Ns mainGlobals mg) (c : z.Says K) (i : Nat) {x : Str} (e : z.free[i]? = some x := by rfl) : mg x = none :=
  PySem.W.mg_none_of X G (c.f _ (List.mem_of_getElem? e))
theorem Hd.Says.gc (X : K.In h) (G : h.Ns mainGlobals mg) (c : z.Says K) (i : Nat) {x : Str} {d : D} (e : z.cons[i]? = some (x, d) := by rfl) : GC K mg x d := by
  obtain ⟨u, h1, h2⟩ := c.c _ (List.mem_of_getElem? e)
  exact gc_of X G h1 h2
end
theorem g_walkE {l : PySem.W.OpenLaw} {n k : Nat} {q : Program} {loose : List Str} {XP : (Str → Option Value) → Heap → Prop} {YP : World → Heap → Prop} {d : DefRec} {x y : Str} {sem : Sem} (hn : l.most = some n) (hn2 : n ≤ sizeLine) (hdf : d.params.defaults = [])
    (hr : Room k callerA) (hx : d.name = x)
    (F : ∀ (w : World) (mg : Str → Option Value) (h : Heap), YP w h → h.Ns mainGlobals mg → ∃ K : PySem.W.Frag, K.In h ∧ ∀ base : Heap, K.In base → base.Ns mainGlobals mg → Ok l.prog w K mg base k x [y] sem)
    (hs : ∀ ns : List Int, ns.length ≤ n → sem [.val (scrD ns)] [] fun r _ => r = .bl true) : PySem.W.WalkO q loose XP YP l.row.toRowW d [] (fun f vs => PySem.call f vs) := by
  refine Att.attach_call hn hdf fun w s0 s1 mg mb fa o pm cd doc a vs ns G Y ho hd hcd hmg hobj hints hlen hg => ?_
  obtain ⟨K, KX, hF⟩ := F w mg _ Y G.T.g
  subst hx
  obtain ⟨f, fd, h1, h2, h3, h4, h5, oc, od, osl, lk⟩ := hF _ KX G.T.g
  cases hmg.symm.trans h1
  refine g_law (x := y) (fd := fd) (sp := spD K 1 sem) (CX := CX0) KX G.T.g G.T.b G.T.builtins G.T.nolimit hg hobj hints (Nat.le_trans hlen hn2) hr (fun base h h' => ?_) (fun u => ?_) (fun H hO hS => ?_) fun H e s' z => z
  · obtain ⟨f2, fd2, k1, k2, k3, k4, k5, oc2, od2, osl2, lk2⟩ := hF base h h'
    cases hmg.symm.trans k1
    rw [lk] at lk2
    cases lk2
    exact k5
  · exact h3 s1 [u] KX rfl
  · exact ⟨rfl, H, none, [], [.val (scrD ns)], _, .val (.scr hS (scr_rep ns)) .nil, ⟨Same.refl _, fun _ z => nomatch z⟩, hs ns hlen, fun v H' F' d T' _ _ r q => by subst q; cases r; rfl⟩
end L2.G

namespace L2.G
open PySem PySem.Spec PyProof.Rows
/-! sorted(set(xs)), xs a list of tuples of ints of either sign -/
def TupH (h : Heap) (p : Addr × List Int) : Prop := ∃ o xs n, h.get? p.1 = some o ∧ o.cls = .type "tuple" ∧ o.data = .seq xs n ∧ Vals (p.2.map V.int) xs.toList
theorem TupH.keep {h h' : Heap} {p : Addr × List Int} (k : ∀ b o, h.get? b = some o → h'.get? b = some o) : TupH h p → TupH h' p :=
  fun ⟨o, xs, n, g, r⟩ => ⟨o, xs, n, k _ _ g, r⟩
theorem TupH.first {h : Heap} : ∀ (L : List (Addr × List Int)), (∀ p ∈ L, TupH h p ∧ p.2 ≠ []) → ∃ fs, PyProof.Rows.TupsOf h noS (L.map fun p => Value.ref p.1) fs
  | [], _ => ⟨[], .nil⟩
  | p :: L, q => by
    obtain ⟨fs, ih⟩ := TupH.first L fun r hr => q r (List.mem_cons_of_mem _ hr)
    obtain ⟨⟨o, xs, n, g, c, d, v⟩, h2⟩ := q p List.mem_cons_self
    obtain ⟨m, r, er⟩ := List.exists_cons_of_ne_nil h2
    rw [er] at v
    obtain ⟨u, us, ex⟩ : ∃ u us, xs.toList = u :: us := by
      cases z : xs.toList with
      | nil => rw [z] at v; cases v
      | cons u us => exact ⟨u, us, rfl⟩
    rw [ex] at v
    have hu : ∃ t, u = .int m t := by
      cases v with
      | cons r _ => exact r
    obtain ⟨t, rfl⟩ := hu
    have g0 : xs[0]? = some (.int m t) := by rw [← Array.getElem?_toList, ex]; rfl
    exact ⟨_, .cons ⟨p.1, o, xs, n, rfl, g, c, d, g0, fun _ => ⟨m, t, rfl⟩, fun z => nomatch z⟩ ih⟩
def dedL : List (List Int) → List (List Int)
  | [] => []
  | x :: r => if x ∈ r then dedL r else x :: dedL r
def stS : Option (List (List Int)) → PD | some nss => some (TupsD nss, .lst ((isort (dedL nss)).map tI)) | none => none
def fSortS : List D → PD | [.lst xs] => stS (tups? xs) | _ => none
theorem fSortS_lst {xs : List D} : fSortS [.lst xs] = stS (tups? xs) := rfl
theorem stS_some {n : List (List Int)} : stS (some n) = some (TupsD n, .lst ((isort (dedL n)).map tI)) := rfl
section
variable {X : Cx} {e : Expr} {fr : dA} {p p2 pos pos2 : Pos} {es : List Expr}
end
/-! less than, for ints and for tuples of ints -/
def ltR : Option (List Int) → Option (List Int) → PD | some a, some b => some (True, .bl (HT.lexLt a b)) | _, _ => none
def fLtU : D → D → PD
  | .int i, .int j => some (True, .bl (decide (i < j)))
  | .tup xs, .tup ys => ltR (nums? xs) (nums? ys)
  | _, _ => none
theorem fLtU_int {i j : Int} : fLtU (.int i) (.int j) = some (True, .bl (decide (i < j))) := rfl
theorem fLtU_tup {xs ys : List D} : fLtU (.tup xs) (.tup ys) = ltR (nums? xs) (nums? ys) := rfl
theorem ltR_some {a b : List Int} : ltR (some a) (some b) = some (True, .bl (HT.lexLt a b)) := rfl
section
variable {X : Cx} {a b : Expr} {fa fb : dE} {pos : Pos}
end
end L2.G

namespace L2.G
open PySem PySem.Spec PyProof.Rows
/-! {"a": 1, ..}[x]: a displayed dict of texts to ints, and what stands at x -/
def lkL (kvs : List (Str × Int)) (x : Str) : Option Int := kvs.foldl (fun o c => if x = c.1 then some c.2 else o) none
def dctR (o : Option Int) (T : Tk) (k : KD) : Prop := match o with | some i => k (.int i) T | none => False
def dctK (kvs : List (Str × Int)) (d : D) (T : Tk) (k : KD) : Prop := match d with | .str x => dctR (lkL kvs x) T k | _ => False
def dDctIx (kvs : List (Str × Int)) (fe : dE) : dE := fun ρ T k => fe ρ T fun d T1 => dctK kvs d T1 k
theorem h_dctIx {kvs : List (Str × Int)} {fe : dE} {ρ : En} {T : Tk} {k : KD} : dDctIx kvs fe ρ T k = fe ρ T fun d T1 => dctK kvs d T1 k := propext Iff.rfl
end L2.G

namespace L2.G
open PySem PySem.Spec PyProof.Rows
/-! defs that may raise: a def's reading takes r, what is wished of an exception -/
/-- an exception: the name of its class, what it was given -/
structure ExD where
  nm : Str
  arg : Option D
abbrev RK := ExD → Tk → Prop
/-- in a body: with the slots -/
abbrev RX := ExD → En → Tk → Prop
def noR : RK := fun _ _ => False
def RepE (K : PySem.W.Frag) (mg : Str → Option Value) (F H : Hp) (e : ExD) (cls : Value) (d : Option Addr) : Prop :=
  mg e.nm = some cls ∧ match e.arg with
    | none => d = none
    | some x => ∃ dd v, d = some dd ∧ H dd = some (.xd [(("given" : Str), v)]) ∧ Rep K F x v
def FinX (K : PySem.W.Frag) (mg : Str → Option Value) (t : Option Addr) (F H : Hp) (r : RK) (E : XK) : Prop := ∀ e T' F' H' cls d, Wt K T' t F' H' → Grow t F H F' H' → RepE K mg F' H' e cls d → r e T' → E cls d H'
abbrev SemX := RK → Sem
def spX (K : PySem.W.Frag) (mg : Str → Option Value) (n : Nat) (sem : SemX) : Sp := fun vs H Q E => vs.length = n ∧ ∃ F t T as k r, ArgL K t F as vs ∧ Wt K T t F H ∧ sem r as T k ∧ Fin K t F H k Q ∧ FinX K mg t F H r E
def OkX (P : Program) (w : World) (K : PySem.W.Frag) (mg : Str → Option Value) (base : Heap) (n : Nat) (x : Str) (ps : List Str) (sem : SemX) : Prop :=
  ∃ f fd, mg x = some (.ref f) ∧ PySem.W.keepIn K (.ref f) = true ∧ Binds K fd ps [] ∧ (∀ (s : Shared) (ws : List Value), K.In s.heap → ws.length = ps.length → BindsTo s fd ⟨[], ps.zip ws⟩ (ps.zip ws)) ∧ GFn P w K mg base (L2.CX P w) n f fd ps (spX K mg ps.length sem) ∧ ∃ oc od osl, K.lookup f = some ⟨oc, od, .func fd, osl⟩
theorem OkX.mono {P : Program} {w : World} {K : PySem.W.Frag} {mg : Str → Option Value} {base : Heap} {m n : Nat} {x : Str} {ps : List Str} {sem : SemX} (h : OkX P w K mg base m x ps sem) (l : m ≤ n) : OkX P w K mg base n x ps sem :=
  let ⟨f, fd, h1, h2, h3, h4, h5, h6⟩ := h; ⟨f, fd, h1, h2, h3, h4, h5.mono l, h6⟩
theorem OkX.imp {P : Program} {w : World} {K : PySem.W.Frag} {mg : Str → Option Value} {base : Heap} {n : Nat} {x : Str} {ps : List Str} {sem sem' : SemX} (h : OkX P w K mg base n x ps sem) (i : ∀ r as T k, sem' r as T k → sem r as T k) : OkX P w K mg base n x ps sem' :=
  let ⟨f, fd, h1, h2, h3, h4, h5, h6⟩ := h; ⟨f, fd, h1, h2, h3, h4, h5.imp (fun vs H Q E ⟨q1, F, t, T, as, k, r, a, b, c, d, e⟩ => ⟨q1, F, t, T, as, k, r, a, b, i _ _ _ _ c, d, e⟩), h6⟩

/-! in a body -/
structure Ct where
  t : Option Addr
  F0 : Hp
  H0 : Hp
  F1 : Hp
def tDX (K : PySem.W.Frag) (c : Ct) (f : dE) : TE := fun σ H Q => ∃ ρ T F k, Ws K ρ T c.t σ c.F0 c.H0 F H ∧ Same c.F1 F ∧ f ρ T k ∧ Fin K c.t F H k Q
abbrev PEx (X : Cx) (c : Ct) (e : Expr) (f : dE) : Prop := PE X e (tDX X.K c f)
def tDXS (K : PySem.W.Frag) (c : Ct) (f : dS) : TS := fun E σ H => ∃ ρ T F k, Ws K ρ T c.t σ c.F0 c.H0 F H ∧ Same c.F1 F ∧ f k ρ T ∧ FinE K c.t c.F0 c.H0 F k E
abbrev PSx (X : Cx) (c : Ct) (st : Stmt) (f : dS) : Prop := PS X st (tDXS X.K c f)
abbrev PSsx (X : Cx) (c : Ct) (st : List Stmt) (f : dS) : Prop := PSs X st (tDXS X.K c f)
/-- what r wishes is what W wishes -/
def Lk (X : Cx) (c : Ct) (r : RX) (W : WX) : Prop := ∀ e ρ T F H cls d σ, Ws X.K ρ T c.t σ c.F0 c.H0 F H → Same c.F1 F → RepE X.K X.mg F H e cls d → r e ρ T → W cls d σ H
section
variable {X : Cx} {c : Ct} {e : Expr} {fe fa fb : dE} {st : Stmt} {rest : List Stmt} {f g : dS} {pos : Pos} {W : WX} {r : RX}
theorem sx_of (h : PSd X st f) : PSx X c st f := ps_imp h fun _ _ _ ⟨ρ, T, F, k, w, _, h, fe⟩ => ⟨ρ, T, c.t, c.F0, c.H0, F, k, w, h, fe⟩
theorem ssx_of (h : PSsd X rest f) : PSsx X c rest f := pss_imp h fun _ _ _ ⟨ρ, T, F, k, w, _, h, fe⟩ => ⟨ρ, T, c.t, c.F0, c.H0, F, k, w, h, fe⟩
theorem ssx_cons (h1 : PSx X c st f) (h2 : PSsx X c rest g) : PSsx X c (st :: rest) (sSeq f g) := by
  refine pss_imp (pss_cons h1 h2) fun E σ H h => ?_
  obtain ⟨ρ, T, F, k, w, s, h, fe⟩ := h
  exact ⟨ρ, T, F, _, w, s, h, ⟨fun ρ' T' σ' F' H' w' s' h' => ⟨ρ', T', F', k, w', s.trans s', h', fe.to s'⟩, fe.rt, fe.bk, fe.ct⟩⟩
theorem ssx_one (h1 : PSx X c st f) : PSsx X c [st] f := pss_one h1
theorem sx_expr (he : PEx X c e fe) (hs : swapsWith e none pos.line X.env = pure false := by rfl) : PSx X c (.Expr e pos) (sExpr fe) := by
  refine ps_imp (ps_expr he hs) fun E σ H h => ?_
  obtain ⟨ρ, T, F, k, w, s, h, fe⟩ := h
  exact ⟨ρ, T, F, _, w, s, h, fun v H1 F1 d T1 w1 g1 r1 h1 => fe.nx _ _ _ _ _ (w.grow g1 w1) g1.sub h1⟩
theorem sx_if {cc : Expr} {tc : dT} {a b : List Stmt} (hc : PTd X cc tc) (ha : PSsx X c a f) (hb : PSsx X c b g) : PSx X c (.If cc a b pos) (sIf tc f g) := by
  refine ps_imp (ps_if hc ha hb) fun E σ H h => ?_
  obtain ⟨ρ, T, F, k, w, s, h, fe⟩ := h
  refine ⟨ρ, T, c.t, F, _, w.w, h, fun b H1 F1 T1 w1 g1 h1 => ?_⟩
  cases b with
  | true => exact ⟨ρ, T1, F1, k, w.grow g1 w1, s.trans g1.sub, h1, fe.to g1.sub⟩
  | false => exact ⟨ρ, T1, F1, k, w.grow g1 w1, s.trans g1.sub, h1, fe.to g1.sub⟩
end

/-! calls -/
section
variable {X : Cx} {CX : CXT} {n : Nat} {f : Addr} {fd : FuncData} {ps : List Str} {sp : Sp} {x : Str} {p pos : Pos} {e : Expr} {es : List Expr} {t : TA}
theorem g_runS {σ : L2.St} {E : XK} (G : GFn X.prog X.w X.K X.mg X.base CX n f fd ps sp) (hr : Room n X.A) (hgd : X.A.guards = some []) (hx : PassesAt CX X σ E) {pins : List (Addr × Obj)} {H : Hp} {s : Shared} {Q : VK} {args : Args} {us : List Value} {vs : List V}
    (I : Inv X pins σ H s) (r : Vals vs us) (b : BindsTo s fd args (ps.zip us)) (h : sp vs H Q E) : wpAny (model X.prog X.w) X.A (call (.ref f) args.pos args.kw) (EP X pins σ Q) X.xe s := by
  apply wpAny_call
  apply codeAny_mono (G.go X.A X.stack s H args us vs Q E ⟨hr, hgd⟩ I.env0 b r h)
  intro r s' hq
  match r, hq with
  | .error e, hq => exact hx pins H s e s' I hq
  | .ok (.ret u), hq => exact I.after hq
theorem g_callS {E : L2.St → XK} (G : GFn X.prog X.w X.K X.mg X.base CX n f fd ps sp) (hr : Room n X.A) (hgd : X.A.guards = some []) (hg : Gl X x) (hm : X.mg x = some (.ref f)) (hk : PySem.W.keepIn X.K (.ref f) = true) (hb : Binds X.K fd ps []) (hx : ∀ σ, PassesAt CX X σ (E σ))
    (ha : PA X (e :: es) t) (hd : (x == ("__debug__" : Str)) = false := by decide) (he : starEach (e :: es) X.env = (false, eval e X.env) :: starEach es X.env := by rfl) (hp : (backTo pos (starEach es X.env)).any (·.1) = false := by rfl) :
    PE X (.Call (.Name x p) (e :: es) [] pos) (tCallS sp E t) := by
  constructor
  intro pins s σ H Q I h
  apply wpAny_Call_Name_kw
  apply ld_glob I hg hm _ hd
  apply PySem.W.callWith_K (h₀ := X.base) I.ok.mod.kin hk _ he hp
  apply thn (ha.run pos pins s σ H _ I h)
  rintro us s1 ⟨vs, H1, I1, r, q⟩
  refine ⟨I1.kIn, ?_⟩
  have q : sp vs H1 Q (E σ) := q
  have hl : us.length = ps.length := by rw [← r.length]; exact G.len _ _ _ _ q
  have b := hb s1 us I1.kIn (by rw [List.append_nil]; exact hl)
  rw [List.append_nil] at b
  exact g_runS G hr hgd (hx σ) (args := ⟨us, []⟩) I1 r b q
end
section
variable {X : Cx} {n : Nat} {x : Str} {ps : List Str} {sem : SemX} {p pos : Pos} {e : Expr} {es : List Expr} {kws : List Keyword} {fr : dA} {c : Ct} {r : RX} {W : WX}
/-- a call that may raise -/
def dCallX (n : Nat) (sem : SemX) (r : RX) (fr : dA) : dE := fun ρ T k => fr ρ T fun as T1 => as.length = n ∧ sem (fun e T => r e ρ T) as T1 k
theorem x_call (G : OkX X.prog X.w X.K X.mg X.base n x ps sem) (hr : Room n X.A) (hgd : X.A.guards = some []) (tk : Takes X W) (lk : Lk X c r W) (ha : PAd X (e :: es) fr) (hg : Gl X x := by rfl)
    (hd : (x == ("__debug__" : Str)) = false := by decide) (he : starEach (e :: es) X.env = (false, eval e X.env) :: starEach es X.env := by rfl) (hp : (backTo pos (starEach es X.env)).any (·.1) = false := by rfl) : PEx X c (.Call (.Name x p) (e :: es) [] pos) (dCallX ps.length sem r fr) := by
  obtain ⟨f, fd, h1, h2, h3, _, h5, _⟩ := G
  refine pe_imp (g_callS (E := WE W) h5 hr hgd hg h1 h2 h3 (fun σ => passAt tk σ) ha hd he hp) fun σ H Q h => ?_
  obtain ⟨ρ, T, F, k, w, s, h, f⟩ := h
  refine ⟨ρ, T, c.t, F, _, w.w, h, fun vs H1 F1 as T1 w1 g1 r1 h1 => ?_⟩
  exact ⟨by rw [← r1.len]; exact h1.1, F1, c.t, T1, as, k, _, r1, w1, h1.2, f.then g1, fun e T' F' H' cls d w' g' re hr => lk e ρ T' F' H' cls d σ (w.grow (g1.trans g') w') (s.trans (g1.trans g').sub) re hr⟩
theorem noPass {X : Cx} : Passes (L2.CX X.prog X.w) X E0 := fun _ _ _ _ _ _ _ ⟨_, _, _, _, _, _, _, _, _, _, _, _, h⟩ => h.elim
/-- a call of a def that might raise, and does not -/
theorem d_callN (G : OkX X.prog X.w X.K X.mg X.base n x ps sem) (hr : Room n X.A) (hgd : X.A.guards = some []) (ha : PAd X (e :: es) fr) (hg : Gl X x := by rfl)
    (hd : (x == ("__debug__" : Str)) = false := by decide) (he : starEach (e :: es) X.env = (false, eval e X.env) :: starEach es X.env := by rfl) (hp : (backTo pos (starEach es X.env)).any (·.1) = false := by rfl) : PEd X (.Call (.Name x p) (e :: es) [] pos) (dCall ps.length (sem noR) fr) := by
  obtain ⟨f, fd, h1, h2, h3, _, h5, _⟩ := G
  refine pe_imp (g_call (E := E0) h5 hr hgd hg h1 h2 h3 noPass ha hd he hp) fun σ H Q h => ?_
  obtain ⟨ρ, T, t, F, k, w, h, f⟩ := h
  refine ⟨ρ, T, t, F, _, w, h, fun vs H1 F1 as T1 w1 g1 r1 h1 => ?_⟩
  show spX X.K X.mg ps.length sem (vs ++ []) H1 Q E0
  rw [List.append_nil]
  exact ⟨by rw [← r1.len]; exact h1.1, F1, t, T1, as, k, noR, r1, w1, h1.2, f.then g1, fun _ _ _ _ _ _ _ _ _ hr => hr⟩
theorem d_callKN (G : OkX X.prog X.w X.K X.mg X.base n x ps sem) (hr : Room n X.A) (hgd : X.A.guards = some []) (hkw : PKd X kws fr) (hg : Gl X x := by rfl) (hd : (x == ("__debug__" : Str)) = false := by decide)
    (hall : (backToKw pos (keywordEach kws X.env)).all (·.1.isSome) = true := by rfl) (hks : (backToKw pos (keywordEach kws X.env)).filterMap (·.1) = ps := by rfl)
    (hp : ((backTo pos (starEach [] X.env)).any (·.1) || (backToKw pos (keywordEach kws X.env)).any (·.1.isNone)) = false := by rfl) : PEd X (.Call (.Name x p) [] kws pos) (dCall ps.length (sem noR) fr) := by
  obtain ⟨f, fd, h1, h2, _, h4, h5, _⟩ := G
  refine pe_imp (g_callK (E := E0) h5 hr hgd hg h1 h2 noPass h4 hkw hd hall hks hp) fun σ H Q h => ?_
  obtain ⟨ρ, T, t, F, k, w, h, f⟩ := h
  refine ⟨ρ, T, t, F, _, w, h, fun vs H1 F1 as T1 w1 g1 r1 h1 => ?_⟩
  show spX X.K X.mg ps.length sem (vs ++ []) H1 Q E0
  rw [List.append_nil]
  exact ⟨by rw [← r1.len]; exact h1.1, F1, t, T1, as, k, noR, r1, w1, h1.2, f.then g1, fun _ _ _ _ _ _ _ _ _ hr => hr⟩
end
/-! defs -/
abbrev CxX (P : Program) (w : World) (K : PySem.W.Frag) (mg : Str → Option Value) (base : Heap) (N : List Str) (x : Str) (st : Stmt) (f : Addr) (cdv : Value) (A : Around) (fs : List Env) (s : Shared) (H : Hp) (E : XK) : Cx :=
  cxOf (L2.CX P w) P w K mg base N x (defScope st) f cdv A fs s H E
def semX (N : List Str) (b : RX → dS) : SemX := fun r => semOf N (b fun e _ T => r e T)
theorem ok_defX {P : Program} {w : World} {K : PySem.W.Frag} {mg : Str → Option Value} {base : Heap} {n : Nat} {x : Str} {st : Stmt} {N ps : List Str} {b : RX → dS} (h : Df K mg x st) (S : FnScope N ps (defScope st))
    (hb1 : ∀ (kV doc pm : Value) (an : Option Addr) (cdv ct : Value) (us : List Value), us.length = ps.length → bindArgs (PySem.W.fnOf x x (defArgs st) (defBody st) (defScope st) .none kV doc pm an cdv ct) ⟨us, []⟩ = pure (ps.zip us))
    (hb2 : ∀ (kV doc pm : Value) (an : Option Addr) (cdv ct : Value) (us : List Value), us.length = ps.length → bindArgs (PySem.W.fnOf x x (defArgs st) (defBody st) (defScope st) .none kV doc pm an cdv ct) ⟨[], ps.zip us⟩ = pure (ps.zip us))
    (body : ∀ (f : Addr) (cdv : Value) (A : Around) (fs : List Env) (s : Shared) (H : Hp) (E : XK), Room n (A.deeper (envOfC x (defScope st) s.heap.objs.size f cdv)) → A.guards = some [] →
      ∀ (c : Ct) (r : RX) (W : WX), Takes (CxX P w K mg base N x st f cdv A fs s H E) W → Lk (CxX P w K mg base N x st f cdv A fs s H E) c r W → PSsx (CxX P w K mg base N x st f cdv A fs s H E) c (defBody st) (b r)) :
    OkX P w K mg base (n + 1) x ps (semX N b) := by
  obtain ⟨f, fd, Fn, hm⟩ := h
  refine ⟨f, fd, hm, Fn.kp, Fn.binds hb1, ?_, ?_, by obtain ⟨oc, od, kV, doc, pm, an, cdv, ct, osl, _, lk, _⟩ := Fn.ex; exact ⟨oc, od, osl, lk⟩⟩
  · obtain ⟨oc, od, kV, doc, pm, an, cdv, ct, osl, rfl, lk, hcd⟩ := Fn.ex
    exact fun s ws _ hl => .of_eq (hb2 kV doc pm an cdv ct ws hl)
  · obtain ⟨oc, od, kV, doc, pm, an, cdv, ct, osl, rfl, lk, hcd⟩ := Fn.ex
    refine gfn_body lk hcd S (fun vs H Q E q => q.1) fun A fs s H vs Q E hr hgd hsp => ?_
    obtain ⟨hl, F, t, T, as, k, r, ar, wt, h, fin, fx⟩ := hsp
    refine ⟨_, body f cdv A fs s H E hr hgd ⟨t, F, H, F⟩ (fun e _ T => r e T) (fun cls d _ H => E cls d H) (takes_of rfl rfl rfl rfl) (fun e ρ T' F' H' cls d σ w' _ re hr => fx e T' F' H' cls d w'.w.wt w'.g re hr), start' N as, T, F, _, ⟨wd_start ar wt, Grow.refl _ _ _, fun i xs l e1 _ => ?_⟩, Same.refl _, h, ?_⟩
    · exact absurd rfl ((argGet (H := H) ar i _ (startGet e1)).2 xs)
    · exact ⟨fun ρ T' σ' F' H' w' _ q => fin .non H' F' .non T' w'.w.wt w'.g .non q, fun v H' F' d T' w' g' r' q => fin v H' F' d T' w' g' r' q, fun _ _ _ _ _ _ _ q => q.elim, fun _ _ _ _ _ _ _ q => q.elim⟩

/-! raise -/
/-- what an own class without own __init__ must say -/
structure Xc0 (K : PySem.W.Frag) (mg : Str → Option Value) (x : Str) (C : Addr) : Prop where
  gC : mg x = some (.ref C)
  ex : PySem.W.excIn K C PySem.HandSPX.veTail "ValueError.__new__" = true
  kC : PySem.W.keepIn K (.ref C) = true
  sb : PySem.W.subIn K (.ref C) (.type "BaseException") = some true
  ty : PySem.W.typeIn K (.ref C) = some (.type "type")
theorem Hd.Says.xc {z : Hd} {K : PySem.W.Frag} {h : Heap} {mg : Str → Option Value} (X : K.In h) (G : h.Ns mainGlobals mg) (c : z.Says K) (i : Nat) {x : Str} (e : z.cls[i]? = some x := by rfl) : ∃ C, Xc0 K mg x C := by
  obtain ⟨C, h1, h2⟩ := c.x _ (List.mem_of_getElem? e)
  unfold xcB at h2
  simp only [Bool.and_eq_true, beq_iff_eq] at h2
  obtain ⟨q1, q2, q3, q4⟩ := h2
  exact ⟨C, PySem.W.mg_of X G h1, q1, q2, q3, q4⟩
theorem Hd.Says.xm {z : Hd} {K : PySem.W.Frag} {h : Heap} {mg : Str → Option Value} (X : K.In h) (G : h.Ns mainGlobals mg) (c : z.Says K) {x : Str} {mt : Str → Option Bool} (hm : ∀ nm, mt nm = some true → (nm, x) ∈ z.prs) :
    ∀ C, mg x = some (.ref C) → ∀ nm cls, mt nm = some true → mg nm = some cls → PySem.W.exmOne K cls (.ref C) = some true := by
  intro C hC nm cls h1 h2
  obtain ⟨u, C', a, b, e⟩ := c.p _ (hm nm h1)
  have z1 := PySem.W.mg_of X G a
  have z2 := PySem.W.mg_of X G b
  simp only at z1 z2
  rw [hC] at z2
  rw [h2] at z1
  cases z1
  cases z2
  exact e
section
variable {X : Cx} {c : Ct} {pos pos2 p : Pos} {W : WX} {r : RX} {x : Str} {C : Addr}
theorem pmk_own0 (q : Xc0 X.K X.mg x C) (hg : Gl X x) (hdb : (x == ("__debug__" : Str)) = false := by decide) : PMk X (.Call (.Name x p) [] [] pos) (fun _ H Q => Q (.ref C) none H) := by
  intro pins s σ H Q I h
  refine wpAny_Call_Name_kw (ld_glob I hg q.gC ?_ hdb)
  refine PySem.W.callWith_K0 I.kIn q.kC ?_
  show wpAny _ _ (call (.ref C) []) _ _ _
  obtain ⟨bm, N, nm, qn, bs, hdct, sn, sub, ab, col, dd, k0, k1, k2, k3, k5, mN, hC, hN, hni, T⟩ := exc_obj I.kIn q.ex
  refine wpAny_call_exc_subT PySem.F.excBase_ValueError T hC hN hni (fun h' e hm => ?_) (by show 0 ≤ sizeLine; omega)
  exact mk_of I hm (raises_own q.sb q.ty) h (I.hok.gone hm.new)
def sRaise0 (x : Str) (r : RX) : dS := fun _ ρ T => r ⟨x, none⟩ ρ T
theorem sx_raise0 (q : Xc0 X.K X.mg x C) (hc : X.calm = true) (tk : Takes X W) (lk : Lk X c r W) (hg : Gl X x := by rfl) (hdb : (x == ("__debug__" : Str)) = false := by decide) : PSx X c (.Raise (some (.Call (.Name x p) [] [] pos)) none pos2) (sRaise0 x r) := by
  refine ps_imp (ps_raise hc tk (pmk_own0 q hg hdb)) fun E σ H h => ?_
  obtain ⟨ρ, T, F, k, w, s, h, fe⟩ := h
  exact lk ⟨x, none⟩ ρ T F H (.ref C) none σ w s ⟨q.gC, rfl⟩ h
end

/-! try .. except X -/
section
variable {X : Cx} {x : Str} {cv : Value} {body suite : List Stmt} {b₀ : Stmt} {np pos pos' : Pos} {b : RX → dS} {s : dS} {mt : Str → Option Bool}
def sTryO (mt : Str → Option Bool) (b : RX → dS) (s : dS) : dS := fun k ρ T => b (fun e ρ' T' => mt e.nm = some true ∧ s k ρ' T') k ρ T
theorem s_tryO (hs : X.stack = X.env :: X.outer) (hf : X.env.frame = some X.env.locals) (hc : Names X x cv)
    (hm : ∀ nm cls, mt nm = some true → X.mg nm = some cls → PySem.W.exmOne X.K cls cv = some true)
    (hb : ∀ (c : Ct) (r : RX) (W : WX) (pn : List (Addr × Obj)) (xe : Value → Shared → Prop), Takes (X.tr pn xe) W → Lk (X.tr pn xe) c r W → PSsx (X.tr pn xe) c body (b r))
    (hsu : ∀ (a : Addr) (oe : Obj) (cls : Value) (d : Option Addr) (pn : List (Addr × Obj)), Zc cls d oe → (∃ vs, oe.data = .fields vs) → PSsd (X.suite a ((a, oe) :: pn)) (b₀ :: suite) s) :
    PSd X (.Try body [.ExceptHandler (some (.Name x np)) none (b₀ :: suite) pos'] [] [] pos) (sTryO mt b s) := by
  refine ps_imp (ps_try_only (Wout := fun _ _ _ _ => False) (tb := fun W D σ H => ∃ c r, (∀ pn xe, Lk (X.tr pn xe) c r W) ∧ tDXS X.K c (b r) D σ H) (ts := fun _ _ _ => tDS X.K s) hs hf hc (fun u s' ⟨_, _, _, _, _, _, _, _, _, _, _, _, _, _, _, _, h⟩ => h.elim)
    (fun W pn xe tk _ => ⟨fun pins s σ H D I ⟨c, r, lk, h⟩ => (hb c r W pn xe tk (lk pn xe)).run pins s σ H D I h⟩) hsu) fun D σ H h => ?_
  obtain ⟨ρ, T, t, F0, H0, F, k, w, h, fe⟩ := h
  refine ⟨⟨t, F0, H0, F⟩, _, fun pn xe e ρ' T' F' H' cls d σ' w' s' re hr => ?_, ρ, T, F, k, w, Same.refl _, h, fe⟩
  exact ⟨true, hm _ _ hr.1 re.1, fun _ a ha => ⟨ρ', T', t, F0, H0, F', k, w', hr.2, fe.to s'⟩, fun q => nomatch q⟩
end
/-! a tuple some times -/
def fMulT : D → D → PD
  | .tup xs, .int n => some (xs ≠ [] ∧ 2 ≤ n ∧ n ≤ 1000 ∧ xs.length ≤ 1000, .tup (repD xs n.toNat))
  | _, _ => none
theorem fMulT_tup {xs : List D} {i : Int} : fMulT (.tup xs) (.int i) = some (xs ≠ [] ∧ 2 ≤ i ∧ i ≤ 1000 ∧ xs.length ≤ 1000, .tup (repD xs i.toNat)) := rfl
theorem fMulT_ok {K : PySem.W.Frag} : OpS K (rRepT K) (oF fMulT) := by
  intro t F H T x y v w k Q wt r1 r2 q f
  cases x with
  | tup xs =>
    cases y with
    | int n =>
      obtain ⟨a, vs, rfl, h1, r1⟩ := rep_tup r1
      cases r2
      obtain ⟨⟨q1, q2, q3, q4⟩, q5⟩ := q
      have hl := r1.len
      exact ⟨a, _, vs, rfl, rfl, same_t wt.sub h1, fun z => q1 (by rw [z] at hl; exact List.length_eq_zero_iff.mp hl), q2, q3, by rw [← hl]; exact q4, fun p hp => f.tup wt (rep_flat r1 _) hp q5⟩
    | _ => exact q.elim
  | _ => exact q.elim
section
variable {X : Cx} {a b : Expr} {fa fb : dE} {pos : Pos}
theorem f_mulT (ha : PEd X a fa) (hb : PEd X b fb) : PEd X (.BinOp a .Mult b pos) (dOp (oF fMulT) fa fb) := d_op op_repT fMulT_ok ha hb
end
end L2.G

namespace L2.G
open PySem PySem.Spec PyProof.Rows
def topS (i : Nat) : Stmt := PySem.Challenge.pw_drawarms_k13_maps_and_their_form.main.body.getD i (.Pass ⟨0, 0, 0, 0⟩)
def k_UNITS : D := (.tup [(.tup [(.int 1), (.int 0)]), (.tup [(.int 0), (.int 1)]), (.tup [(.int (-1)), (.int 0)]), (.tup [(.int 0), (.int (-1))])])
def k_ZERO : D := (.tup [(.int 0), (.int 0)])
def mt_NoMap : Str → Option Bool := fun nm => if nm = "NoMap" then some true else none
abbrev st_is_whole : Stmt := topS 6
theorem sc_is_whole : FnScope ["value"] ["value"] (defScope st_is_whole) := ⟨rfl, rfl, rfl, by decide +kernel, rfl, by decide +kernel, by decide +kernel⟩
def b_is_whole : dS := sRet (dAndV (dIsi .int (dVar 0)) (dNotV (dIsi .bool (dVar 0))))
def sm_is_whole : Sem := semOf ["value"] b_is_whole
theorem e_is_whole (a0 : SV) (T : Tk) (k : KD) : sm_is_whole [a0] T k = b_is_whole { nx := fun _ T => k .non T, rt := k, bk := fun _ _ => False, ct := fun _ _ => False } [some a0] T := rfl
abbrev st_are_wholes : Stmt := topS 7
theorem sc_are_wholes : FnScope ["value", "many", "number"] ["value", "many"] (defScope st_are_wholes) := ⟨rfl, rfl, rfl, by decide +kernel, rfl, by decide +kernel, by decide +kernel⟩
def b_are_wholes : dS := sRet (dAndV (dIsi .tuple (dVar 0)) (dAndV (dOp (oF fEq) (dBlt (oG fLen) (aCons (dVar 0) (aNil))) (dVar 1)) (dBlt (oG fAll) (aCons (dLc [2] (iQ (dVar 0)) (cN 2) dYes (dCall 1 sm_is_whole (aCons (dVar 2) (aNil)))) (aNil)))))
def sm_are_wholes : Sem := semOf ["value", "many", "number"] b_are_wholes
theorem e_are_wholes (a0 a1 : SV) (T : Tk) (k : KD) : sm_are_wholes [a0, a1] T k = b_are_wholes { nx := fun _ T => k .non T, rt := k, bk := fun _ _ => False, ct := fun _ _ => False } [some a0, some a1, none] T := rfl
abbrev st_is_complex : Stmt := topS 11
theorem sc_is_complex : FnScope ["value"] ["value"] (defScope st_is_complex) := ⟨rfl, rfl, rfl, by decide +kernel, rfl, by decide +kernel, by decide +kernel⟩
def b_is_complex : dS := sRet (dCall 2 sm_are_wholes (aCons (dVar 0) (aCons (dC (.int 2)) (aNil))))
def sm_is_complex : Sem := semOf ["value"] b_is_complex
theorem e_is_complex (a0 : SV) (T : Tk) (k : KD) : sm_is_complex [a0] T k = b_is_complex { nx := fun _ T => k .non T, rt := k, bk := fun _ _ => False, ct := fun _ _ => False } [some a0] T := rfl
abbrev st_check_complex : Stmt := topS 12
theorem sc_check_complex : FnScope ["value"] ["value"] (defScope st_check_complex) := ⟨rfl, rfl, rfl, by decide +kernel, rfl, by decide +kernel, by decide +kernel⟩
def b_check_complex : dS := sIf (dNot (dTst (dCall 1 sm_is_complex (aCons (dVar 0) (aNil))))) ((fun _ _ _ => False)) ((fun k ρ T => k.nx ρ T))
def sm_check_complex : Sem := semOf ["value"] b_check_complex
theorem e_check_complex (a0 : SV) (T : Tk) (k : KD) : sm_check_complex [a0] T k = b_check_complex { nx := fun _ T => k .non T, rt := k, bk := fun _ _ => False, ct := fun _ _ => False } [some a0] T := rfl
abbrev st_minus : Stmt := topS 13
theorem sc_minus : FnScope ["number", "other"] ["number", "other"] (defScope st_minus) := ⟨rfl, rfl, rfl, by decide +kernel, rfl, by decide +kernel, by decide +kernel⟩
def b_minus : dS := sRet (dTup (aCons (dOp (oF fSub) (dOp (oF fIx) (dVar 0) (dC (.int 0))) (dOp (oF fIx) (dVar 1) (dC (.int 0)))) (aCons (dOp (oF fSub) (dOp (oF fIx) (dVar 0) (dC (.int 1))) (dOp (oF fIx) (dVar 1) (dC (.int 1)))) (aNil))))
def sm_minus : Sem := semOf ["number", "other"] b_minus
theorem e_minus (a0 a1 : SV) (T : Tk) (k : KD) : sm_minus [a0, a1] T k = b_minus { nx := fun _ T => k .non T, rt := k, bk := fun _ _ => False, ct := fun _ _ => False } [some a0, some a1] T := rfl
abbrev st_times : Stmt := topS 14
theorem sc_times : FnScope ["number", "other"] ["number", "other"] (defScope st_times) := ⟨rfl, rfl, rfl, by decide +kernel, rfl, by decide +kernel, by decide +kernel⟩
def b_times : dS := sRet (dTup (aCons (dOp (oF fSub) (dOp (oF fMul) (dOp (oF fIx) (dVar 0) (dC (.int 0))) (dOp (oF fIx) (dVar 1) (dC (.int 0)))) (dOp (oF fMul) (dOp (oF fIx) (dVar 0) (dC (.int 1))) (dOp (oF fIx) (dVar 1) (dC (.int 1))))) (aCons (dOp (oF fAdd) (dOp (oF fMul) (dOp (oF fIx) (dVar 0) (dC (.int 0))) (dOp (oF fIx) (dVar 1) (dC (.int 1)))) (dOp (oF fMul) (dOp (oF fIx) (dVar 0) (dC (.int 1))) (dOp (oF fIx) (dVar 1) (dC (.int 0))))) (aNil))))
def sm_times : Sem := semOf ["number", "other"] b_times
theorem e_times (a0 a1 : SV) (T : Tk) (k : KD) : sm_times [a0, a1] T k = b_times { nx := fun _ T => k .non T, rt := k, bk := fun _ _ => False, ct := fun _ _ => False } [some a0, some a1] T := rfl
abbrev st_turned_over : Stmt := topS 15
theorem sc_turned_over : FnScope ["number"] ["number"] (defScope st_turned_over) := ⟨rfl, rfl, rfl, by decide +kernel, rfl, by decide +kernel, by decide +kernel⟩
def b_turned_over : dS := sRet (dTup (aCons (dOp (oF fIx) (dVar 0) (dC (.int 0))) (aCons (dNeg (dOp (oF fIx) (dVar 0) (dC (.int 1)))) (aNil))))
def sm_turned_over : Sem := semOf ["number"] b_turned_over
theorem e_turned_over (a0 : SV) (T : Tk) (k : KD) : sm_turned_over [a0] T k = b_turned_over { nx := fun _ T => k .non T, rt := k, bk := fun _ _ => False, ct := fun _ _ => False } [some a0] T := rfl
abbrev st_square_size : Stmt := topS 16
theorem sc_square_size : FnScope ["number"] ["number"] (defScope st_square_size) := ⟨rfl, rfl, rfl, by decide +kernel, rfl, by decide +kernel, by decide +kernel⟩
def b_square_size : dS := sRet (dOp (oF fAdd) (dOp (oF fMul) (dOp (oF fIx) (dVar 0) (dC (.int 0))) (dOp (oF fIx) (dVar 0) (dC (.int 0)))) (dOp (oF fMul) (dOp (oF fIx) (dVar 0) (dC (.int 1))) (dOp (oF fIx) (dVar 0) (dC (.int 1)))))
def sm_square_size : Sem := semOf ["number"] b_square_size
theorem e_square_size (a0 : SV) (T : Tk) (k : KD) : sm_square_size [a0] T k = b_square_size { nx := fun _ T => k .non T, rt := k, bk := fun _ _ => False, ct := fun _ _ => False } [some a0] T := rfl
abbrev st_unit_for : Stmt := topS 17
theorem sc_unit_for : FnScope ["number", "unit", "found"] ["number"] (defScope st_unit_for) := ⟨rfl, rfl, rfl, by decide +kernel, rfl, by decide +kernel, by decide +kernel⟩
def b_unit_for : dS := sSeq (sForI (iQ (dSlQ (dC k_UNITS) (fun _ T k => k none T) (pSome (dC (.int 3))))) (gN 1) (sSeq (sAsg (dCall 2 sm_times (aCons (dVar 0) (aCons (dVar 1) (aNil)))) (gN 2)) (sIf (dAnd (dTst (dOp (oF fGt) (dOp (oF fIx) (dVar 2) (dC (.int 0))) (dC (.int 0)))) (dTst (dOp (oF fGe) (dOp (oF fIx) (dVar 2) (dC (.int 1))) (dC (.int 0))))) (sRet (dVar 1)) ((fun k ρ T => k.nx ρ T))))) (sRet (dOp (oF fIx) (dC k_UNITS) (dC (.int 3))))
def sm_unit_for : Sem := semOf ["number", "unit", "found"] b_unit_for
theorem e_unit_for (a0 : SV) (T : Tk) (k : KD) : sm_unit_for [a0] T k = b_unit_for { nx := fun _ T => k .non T, rt := k, bk := fun _ _ => False, ct := fun _ _ => False } [some a0, none, none] T := rfl
abbrev st_nearest : Stmt := topS 18
theorem sc_nearest : FnScope ["number", "below"] ["number", "below"] (defScope st_nearest) := ⟨rfl, rfl, rfl, by decide +kernel, rfl, by decide +kernel, by decide +kernel⟩
def b_nearest : dS := sRet (dOp (oF fDiv) (dOp (oF fAdd) (dOp (oF fMul) (dC (.int 2)) (dVar 0)) (dVar 1)) (dOp (oF fMul) (dC (.int 2)) (dVar 1)))
def sm_nearest : Sem := semOf ["number", "below"] b_nearest
theorem e_nearest (a0 a1 : SV) (T : Tk) (k : KD) : sm_nearest [a0, a1] T k = b_nearest { nx := fun _ T => k .non T, rt := k, bk := fun _ _ => False, ct := fun _ _ => False } [some a0, some a1] T := rfl
abbrev st_divisor_of_two : Stmt := topS 19
theorem sc_divisor_of_two : FnScope ["number", "other", "one", "two", "product", "whole"] ["number", "other"] (defScope st_divisor_of_two) := ⟨rfl, rfl, rfl, by decide +kernel, rfl, by decide +kernel, by decide +kernel⟩
def b_divisor_of_two : dS := sSeq (sPar 2 3 (aCons (dVar 0) (aCons (dVar 1) (aNil)))) (sSeq (sWhile (dTst (dOp (oF fNe) (dVar 3) (dC k_ZERO))) (sSeq (sAsg (dCall 2 sm_times (aCons (dVar 2) (aCons (dCall 1 sm_turned_over (aCons (dVar 3) (aNil))) (aNil)))) (gN 4)) (sSeq (sAsg (dTup (aCons (dCall 2 sm_nearest (aCons (dOp (oF fIx) (dVar 4) (dC (.int 0))) (aCons (dCall 1 sm_square_size (aCons (dVar 3) (aNil))) (aNil)))) (aCons (dCall 2 sm_nearest (aCons (dOp (oF fIx) (dVar 4) (dC (.int 1))) (aCons (dCall 1 sm_square_size (aCons (dVar 3) (aNil))) (aNil)))) (aNil)))) (gN 5)) (sPar 2 3 (aCons (dVar 3) (aCons (dCall 2 sm_minus (aCons (dVar 2) (aCons (dCall 2 sm_times (aCons (dVar 5) (aCons (dVar 3) (aNil)))) (aNil)))) (aNil))))))) (sRet (dVar 2)))
def sm_divisor_of_two : Sem := semOf ["number", "other", "one", "two", "product", "whole"] b_divisor_of_two
theorem e_divisor_of_two (a0 a1 : SV) (T : Tk) (k : KD) : sm_divisor_of_two [a0, a1] T k = b_divisor_of_two { nx := fun _ T => k .non T, rt := k, bk := fun _ _ => False, ct := fun _ _ => False } [some a0, some a1, none, none, none, none] T := rfl
abbrev st_divisor_of_all : Stmt := topS 20
theorem sc_divisor_of_all : FnScope ["numbers", "found", "number"] ["numbers"] (defScope st_divisor_of_all) := ⟨rfl, rfl, rfl, by decide +kernel, rfl, by decide +kernel, by decide +kernel⟩
def b_divisor_of_all : dS := sSeq (sAsg (dC k_ZERO) (gN 1)) (sSeq (sForI (iQ (dVar 0)) (gN 2) (sAsg (dCall 2 sm_divisor_of_two (aCons (dVar 1) (aCons (dVar 2) (aNil)))) (gN 1))) (sRet (dVar 1)))
def sm_divisor_of_all : Sem := semOf ["numbers", "found", "number"] b_divisor_of_all
theorem e_divisor_of_all (a0 : SV) (T : Tk) (k : KD) : sm_divisor_of_all [a0] T k = b_divisor_of_all { nx := fun _ T => k .non T, rt := k, bk := fun _ _ => False, ct := fun _ _ => False } [some a0, none, none] T := rfl
abbrev st_divided : Stmt := topS 21
theorem sc_divided : FnScope ["number", "other", "product", "below"] ["number", "other"] (defScope st_divided) := ⟨rfl, rfl, rfl, by decide +kernel, rfl, by decide +kernel, by decide +kernel⟩
def b_divided : dS := sSeq (sPar 2 3 (aCons (dCall 2 sm_times (aCons (dVar 0) (aCons (dCall 1 sm_turned_over (aCons (dVar 1) (aNil))) (aNil)))) (aCons (dCall 1 sm_square_size (aCons (dVar 1) (aNil))) (aNil)))) (sSeq (sIf (dOr (dTst (dOp (oF fNe) (dOp (oF fMod) (dOp (oF fIx) (dVar 2) (dC (.int 0))) (dVar 3)) (dC (.int 0)))) (dTst (dOp (oF fNe) (dOp (oF fMod) (dOp (oF fIx) (dVar 2) (dC (.int 1))) (dVar 3)) (dC (.int 0))))) (sRet (dC .non)) ((fun k ρ T => k.nx ρ T))) (sRet (dTup (aCons (dOp (oF fDiv) (dOp (oF fIx) (dVar 2) (dC (.int 0))) (dVar 3)) (aCons (dOp (oF fDiv) (dOp (oF fIx) (dVar 2) (dC (.int 1))) (dVar 3)) (aNil))))))
def sm_divided : Sem := semOf ["number", "other", "product", "below"] b_divided
theorem e_divided (a0 a1 : SV) (T : Tk) (k : KD) : sm_divided [a0, a1] T k = b_divided { nx := fun _ T => k .non T, rt := k, bk := fun _ _ => False, ct := fun _ _ => False } [some a0, some a1, none, none] T := rfl
abbrev st_determinant : Stmt := topS 23
theorem sc_determinant : FnScope ["chart"] ["chart"] (defScope st_determinant) := ⟨rfl, rfl, rfl, by decide +kernel, rfl, by decide +kernel, by decide +kernel⟩
def b_determinant : dS := sRet (dCall 2 sm_minus (aCons (dCall 2 sm_times (aCons (dOp (oF fIx) (dVar 0) (dC (.int 1))) (aCons (dOp (oF fIx) (dVar 0) (dC (.int 4))) (aNil)))) (aCons (dCall 2 sm_times (aCons (dOp (oF fIx) (dVar 0) (dC (.int 2))) (aCons (dOp (oF fIx) (dVar 0) (dC (.int 3))) (aNil)))) (aNil))))
def sm_determinant : Sem := semOf ["chart"] b_determinant
theorem e_determinant (a0 : SV) (T : Tk) (k : KD) : sm_determinant [a0] T k = b_determinant { nx := fun _ T => k .non T, rt := k, bk := fun _ _ => False, ct := fun _ _ => False } [some a0] T := rfl
abbrev st_form_of : Stmt := topS 24
theorem sc_form_of : FnScope ["is_mirrored", "numbers", "common", "found", "number", "unit"] ["is_mirrored", "numbers"] (defScope st_form_of) := ⟨rfl, rfl, rfl, by decide +kernel, rfl, by decide +kernel, by decide +kernel⟩
def b_form_of : dS := sSeq (sAsg (dCall 1 sm_divisor_of_all (aCons (dVar 1) (aNil))) (gN 2)) (sSeq (sAsg (dLc [4] (iQ (dVar 1)) (cN 4) dYes (dCall 2 sm_divided (aCons (dVar 4) (aCons (dVar 2) (aNil))))) (gN 3)) (sSeq (sAsg (dCall 1 sm_unit_for (aCons (dOp (oF fIx) (dLc [4] (iQ (dVar 3)) (cN 4) (dTst (dOp (oF fNe) (dVar 4) (dC k_ZERO))) (dVar 4)) (dC (.int 0))) (aNil))) (gN 5)) (sRet (dTup (aCons (dVar 0) (aStar (dLc [4] (iQ (dVar 3)) (cN 4) dYes (dCall 2 sm_times (aCons (dVar 4) (aCons (dVar 5) (aNil))))) (aNil)))))))
def sm_form_of : Sem := semOf ["is_mirrored", "numbers", "common", "found", "number", "unit"] b_form_of
theorem e_form_of (a0 a1 : SV) (T : Tk) (k : KD) : sm_form_of [a0, a1] T k = b_form_of { nx := fun _ T => k .non T, rt := k, bk := fun _ _ => False, ct := fun _ _ => False } [some a0, some a1, none, none, none, none] T := rfl
abbrev st_is_flag : Stmt := topS 25
theorem sc_is_flag : FnScope ["value"] ["value"] (defScope st_is_flag) := ⟨rfl, rfl, rfl, by decide +kernel, rfl, by decide +kernel, by decide +kernel⟩
def b_is_flag : dS := sRet (dAndV (dCall 1 sm_is_whole (aCons (dVar 0) (aNil))) (dOp (oF fInS) (dVar 0) (dTup (aCons (dC (.int 0)) (aCons (dC (.int 1)) (aNil))))))
def sm_is_flag : Sem := semOf ["value"] b_is_flag
theorem e_is_flag (a0 : SV) (T : Tk) (k : KD) : sm_is_flag [a0] T k = b_is_flag { nx := fun _ T => k .non T, rt := k, bk := fun _ _ => False, ct := fun _ _ => False } [some a0] T := rfl
abbrev st_is_map : Stmt := topS 26
theorem sc_is_map : FnScope ["value", "number"] ["value"] (defScope st_is_map) := ⟨rfl, rfl, rfl, by decide +kernel, rfl, by decide +kernel, by decide +kernel⟩
def b_is_map : dS := sSeq (sIf (dOr (dNot (dTst (dIsi .tuple (dVar 0)))) (dOr (dTst (dOp (oF fNe) (dBlt (oG fLen) (aCons (dVar 0) (aNil))) (dC (.int 5)))) (dNot (dTst (dCall 1 sm_is_flag (aCons (dOp (oF fIx) (dVar 0) (dC (.int 0))) (aNil))))))) (sRet (dC (.bl false))) ((fun k ρ T => k.nx ρ T))) (sSeq (sIf (dOr (dTst (dOp (oF fNe) (dLc [1] (iQ (dSlQ (dVar 0) (pSome (dC (.int 1))) (fun _ T k => k none T))) (cN 1) (dNot (dTst (dCall 1 sm_is_complex (aCons (dVar 1) (aNil))))) (dVar 1)) (dLst (aNil)))) (dTst (dOp (oF fEq) (dCall 1 sm_determinant (aCons (dVar 0) (aNil))) (dC k_ZERO)))) (sRet (dC (.bl false))) ((fun k ρ T => k.nx ρ T))) (sRet (dOp (oF fEq) (dCall 2 sm_form_of (aCons (dOp (oF fIx) (dVar 0) (dC (.int 0))) (aCons (dSlQ (dVar 0) (pSome (dC (.int 1))) (fun _ T k => k none T)) (aNil)))) (dVar 0))))
def sm_is_map : Sem := semOf ["value", "number"] b_is_map
theorem e_is_map (a0 : SV) (T : Tk) (k : KD) : sm_is_map [a0] T k = b_is_map { nx := fun _ T => k .non T, rt := k, bk := fun _ _ => False, ct := fun _ _ => False } [some a0, none] T := rfl
abbrev st_map_of : Stmt := topS 27
theorem sc_map_of : FnScope ["is_mirrored", "first", "second", "third", "fourth", "numbers", "number"] ["is_mirrored", "first", "second", "third", "fourth"] (defScope st_map_of) := ⟨rfl, rfl, rfl, by decide +kernel, rfl, by decide +kernel, by decide +kernel⟩
def b_map_of (r : RX) : dS := sSeq (sIf (dNot (dTst (dCall 1 sm_is_flag (aCons (dVar 0) (aNil))))) ((fun _ _ _ => False)) ((fun k ρ T => k.nx ρ T))) (sSeq (sAsg (dTup (aCons (dVar 1) (aCons (dVar 2) (aCons (dVar 3) (aCons (dVar 4) (aNil)))))) (gN 5)) (sSeq (sForI (iQ (dVar 5)) (gN 6) (sExpr (dCall 1 sm_check_complex (aCons (dVar 6) (aNil))))) (sSeq (sIf (dTst (dOp (oF fEq) (dCall 1 sm_determinant (aCons (dTup (aCons (dVar 0) (aStar (dVar 5) (aNil)))) (aNil))) (dC k_ZERO))) (sRaise0 "NoMap" r) ((fun k ρ T => k.nx ρ T))) (sRet (dCall 2 sm_form_of (aCons (dVar 0) (aCons (dVar 5) (aNil))))))))
def se_map_of : SemX := semX ["is_mirrored", "first", "second", "third", "fourth", "numbers", "number"] b_map_of
def sm_map_of : Sem := se_map_of noR
theorem e_map_of (a0 a1 a2 a3 a4 : SV) (T : Tk) (k : KD) : sm_map_of [a0, a1, a2, a3, a4] T k = b_map_of (fun e _ T => noR e T) { nx := fun _ T => k .non T, rt := k, bk := fun _ _ => False, ct := fun _ _ => False } [some a0, some a1, some a2, some a3, some a4, none, none] T := rfl
theorem ex_map_of (r : RK) (a0 a1 a2 a3 a4 : SV) (T : Tk) (k : KD) : se_map_of r [a0, a1, a2, a3, a4] T k = b_map_of (fun e _ T => r e T) { nx := fun _ T => k .non T, rt := k, bk := fun _ _ => False, ct := fun _ _ => False } [some a0, some a1, some a2, some a3, some a4, none, none] T := rfl
abbrev st__law_tank : Stmt := topS 29
theorem sc__law_tank : FnScope ["_law_script", "_law_spot", "_law_stir", "_law_cell", "_law_own", "_law_rest"] ["_law_script", "_law_spot"] (defScope st__law_tank) := ⟨rfl, rfl, rfl, by decide +kernel, rfl, by decide +kernel, by decide +kernel⟩
def b__law_tank : En → Tk → KD → Prop := fun ρ T k => (sAsg (dOp (oF fAdd) (dC (.int 90011)) (dOp (oF fMul) (dC (.int 2003)) (dVar 1))) (gN 2)) { no0 with nx := fun ρ1 T1 => (fun ρ T k => (sForI (iQ (dSlQ (dVar 0) (fun _ T k => k none T) (pSome (dC (.int 9))))) (gN 3) (sAsg (dOp (oF fMod) (dBlt (oG fInt) (aCons (dOp (oF fAdd) (dOp (oF fAdd) (dOp (oF fMul) (dVar 2) (dC (.int 51977))) (dOp (oF fMod) (dBlt (oG fInt) (aCons (dVar 3) (aNil))) (dC (.int 2147483629)))) (dC (.int 37))) (aNil))) (dC (.int 2147483629))) (gN 2))) { no0 with nx := fun ρ1 T1 => (fun ρ T k => (sAsg (dIf (dTst (dOp (oF fLt) (dVar 1) (dBlt (oG fLen) (aCons (dVar 0) (aNil))))) (dBlt (oG fInt) (aCons (dOp (oF fIx) (dVar 0) (dVar 1)) (aNil))) (dVar 2)) (gN 4)) { no0 with nx := fun ρ1 T1 => (fun ρ T k => (sAsg (dIf (dOr (dTst (dOp (oF fLt) (dVar 4) (dC (.int 0)))) (dTst (dOp (oF fGe) (dVar 4) (dOp (oF fPow) (dC (.int 10)) (dC (.int 18)))))) (dBlt (oG (fI1 iAbs)) (aCons (dVar 4) (aNil))) (dC (.int 0))) (gN 5)) { no0 with nx := fun ρ1 T1 => (fun ρ T k => (aCons (dVar 5) (aCons (dOp (oF fMod) (dBlt (oG fInt) (aCons (dOp (oF fAdd) (dOp (oF fAdd) (dOp (oF fMul) (dVar 2) (dC (.int 33013))) (dOp (oF fMul) (dOp (oF fMod) (dBlt (oG fInt) (aCons (dVar 4) (aNil))) (dC (.int 2147483629))) (dC (.int 7001)))) (dC (.int 3))) (aNil))) (dC (.int 2147483629))) (aCons (dC (.int 0)) (aNil)))) ρ T fun as T1 => match vals? as with | some ds => ds.length ≤ 1000000 ∧ k (.lst ds) T1 | none => False) ρ1 T1 k } ρ T) ρ1 T1 k } ρ T) ρ1 T1 k } ρ T) ρ1 T1 k } ρ T
def sm__law_tank : Sem := semO ["_law_script", "_law_spot", "_law_stir", "_law_cell", "_law_own", "_law_rest"] b__law_tank
theorem e__law_tank (a0 a1 : SV) (T : Tk) (k : KD) : sm__law_tank [a0, a1] T k = b__law_tank [some a0, some a1, none, none, none, none] T k := rfl
abbrev st__law_draw : Stmt := topS 30
theorem sc__law_draw : FnScope ["_law_tank_here", "_law_many", "_law_figure", "_law_pace"] ["_law_tank_here", "_law_many"] (defScope st__law_draw) := ⟨rfl, rfl, rfl, by decide +kernel, rfl, by decide +kernel, by decide +kernel⟩
def b__law_draw : dS := sSeq (sIf (dTst (dOp (oF fGt) (dTix 0 (dC (.int 0))) (dC (.int 0)))) (sSeq (sAsg (dBlt (oG fDivmod) (aCons (dTix 0 (dC (.int 0))) (aCons (dVar 1) (aNil)))) (gTL 2 (gsCons (gTs 0 (dC (.int 0))) (gsCons (gN 2) (gsNil))))) (sRet (dVar 2))) ((fun k ρ T => k.nx ρ T))) (sSeq (sAsg (dOp (oF fAdd) (dTix 0 (dC (.int 2))) (dC (.int 1))) (gTs 0 (dC (.int 2)))) (sSeq (sAsg (dOp (oF fAdd) (dOp (oF fMod) (dBlt (oG fInt) (aCons (dTix 0 (dC (.int 1))) (aNil))) (dC (.int 9001))) (dC (.int 30011))) (gN 3)) (sSeq (sAsg (dOp (oF fMod) (dBlt (oG fInt) (aCons (dOp (oF fAdd) (dOp (oF fAdd) (dOp (oF fMul) (dTix 0 (dC (.int 1))) (dVar 3)) (dOp (oF fMul) (dC (.int 70001)) (dTix 0 (dC (.int 2))))) (dC (.int 19))) (aNil))) (dC (.int 2147483629))) (gTs 0 (dC (.int 1)))) (sRet (dOp (oF fMod) (dBlt (oG fInt) (aCons (dOp (oF fDiv) (dTix 0 (dC (.int 1))) (dC (.int 53))) (aNil))) (dVar 1))))))
def sm__law_draw : Sem := semOf ["_law_tank_here", "_law_many", "_law_figure", "_law_pace"] b__law_draw
theorem e__law_draw (a0 a1 : SV) (T : Tk) (k : KD) : sm__law_draw [a0, a1] T k = b__law_draw { nx := fun _ T => k .non T, rt := k, bk := fun _ _ => False, ct := fun _ _ => False } [some a0, some a1, none, none] T := rfl
abbrev st__law_pick : Stmt := topS 31
theorem sc__law_pick : FnScope ["_law_tank_here", "_law_some"] ["_law_tank_here", "_law_some"] (defScope st__law_pick) := ⟨rfl, rfl, rfl, by decide +kernel, rfl, by decide +kernel, by decide +kernel⟩
def b__law_pick : dS := sRet (dOp (oF fIx) (dVar 1) (dCall 2 sm__law_draw (aTank 0 (aCons (dBlt (oG fLen) (aCons (dVar 1) (aNil))) (aNil)))))
def sm__law_pick : Sem := semOf ["_law_tank_here", "_law_some"] b__law_pick
theorem e__law_pick (a0 a1 : SV) (T : Tk) (k : KD) : sm__law_pick [a0, a1] T k = b__law_pick { nx := fun _ T => k .non T, rt := k, bk := fun _ _ => False, ct := fun _ _ => False } [some a0, some a1] T := rfl
abbrev st__law_rounds : Stmt := topS 32
theorem sc__law_rounds : FnScope ["_law_script"] ["_law_script"] (defScope st__law_rounds) := ⟨rfl, rfl, rfl, by decide +kernel, rfl, by decide +kernel, by decide +kernel⟩
def b__law_rounds : dS := sRet (dBlt (oG (fI2 iMax)) (aCons (dC (.int 2)) (aCons (dBlt (oG (fI2 iMin)) (aCons (dBlt (oG fLen) (aCons (dVar 0) (aNil))) (aCons (dC (.int 3)) (aNil)))) (aNil))))
def sm__law_rounds : Sem := semOf ["_law_script"] b__law_rounds
theorem e__law_rounds (a0 : SV) (T : Tk) (k : KD) : sm__law_rounds [a0] T k = b__law_rounds { nx := fun _ T => k .non T, rt := k, bk := fun _ _ => False, ct := fun _ _ => False } [some a0] T := rfl
abbrev st__law_number : Stmt := topS 33
theorem sc__law_number : FnScope ["_law_tank_here", "_law_size_here"] ["_law_tank_here"] (defScope st__law_number) := ⟨rfl, rfl, rfl, by decide +kernel, rfl, by decide +kernel, by decide +kernel⟩
def b__law_number : dS := sSeq (sAsg (dCall 2 sm__law_pick (aTank 0 (aCons (dTup (aCons (dC (.int 1)) (aCons (dC (.int 2)) (aCons (dC (.int 3)) (aCons (dC (.int 9)) (aCons (dC (.int 9)) (aCons (dC (.int 99)) (aCons (dC (.int 0)) (aNil))))))))) (aNil)))) (gN 1)) (sSeq (sIf (dTst (dOp (oF fGt) (dVar 1) (dC (.int 0)))) (sRet (dOp (oF fSub) (dCall 2 sm__law_draw (aTank 0 (aCons (dOp (oF fAdd) (dOp (oF fMul) (dC (.int 2)) (dVar 1)) (dC (.int 1))) (aNil)))) (dVar 1))) ((fun k ρ T => k.nx ρ T))) (sRet (dOp (oF fMul) (dOp (oF fAdd) (dOp (oF fMul) (dCall 2 sm__law_draw (aTank 0 (aCons (dC (.int 1000003)) (aNil)))) (dC (.int 1000003))) (dCall 2 sm__law_draw (aTank 0 (aCons (dC (.int 1000003)) (aNil))))) (dOp (oF fSub) (dC (.int 1)) (dOp (oF fMul) (dC (.int 2)) (dCall 2 sm__law_draw (aTank 0 (aCons (dC (.int 2)) (aNil)))))))))
def sm__law_number : Sem := semOf ["_law_tank_here", "_law_size_here"] b__law_number
theorem e__law_number (a0 : SV) (T : Tk) (k : KD) : sm__law_number [a0] T k = b__law_number { nx := fun _ T => k .non T, rt := k, bk := fun _ _ => False, ct := fun _ _ => False } [some a0, none] T := rfl
abbrev st__law_small : Stmt := topS 34
theorem sc__law_small : FnScope ["_law_tank_here", "_law_size_here"] ["_law_tank_here"] (defScope st__law_small) := ⟨rfl, rfl, rfl, by decide +kernel, rfl, by decide +kernel, by decide +kernel⟩
def b__law_small : dS := sSeq (sAsg (dCall 2 sm__law_pick (aTank 0 (aCons (dTup (aCons (dC (.int 1)) (aCons (dC (.int 2)) (aCons (dC (.int 3)) (aCons (dC (.int 5)) (aCons (dC (.int 9)) (aNil))))))) (aNil)))) (gN 1)) (sRet (dOp (oF fSub) (dCall 2 sm__law_draw (aTank 0 (aCons (dOp (oF fAdd) (dOp (oF fMul) (dC (.int 2)) (dVar 1)) (dC (.int 1))) (aNil)))) (dVar 1)))
def sm__law_small : Sem := semOf ["_law_tank_here", "_law_size_here"] b__law_small
theorem e__law_small (a0 : SV) (T : Tk) (k : KD) : sm__law_small [a0] T k = b__law_small { nx := fun _ T => k .non T, rt := k, bk := fun _ _ => False, ct := fun _ _ => False } [some a0, none] T := rfl
abbrev st__law_less : Stmt := topS 35
theorem sc__law_less : FnScope ["_law_one", "_law_two"] ["_law_one", "_law_two"] (defScope st__law_less) := ⟨rfl, rfl, rfl, by decide +kernel, rfl, by decide +kernel, by decide +kernel⟩
def b__law_less : dS := sRet (dTup (aCons (dOp (oF fSub) (dOp (oF fIx) (dVar 0) (dC (.int 0))) (dOp (oF fIx) (dVar 1) (dC (.int 0)))) (aCons (dOp (oF fSub) (dOp (oF fIx) (dVar 0) (dC (.int 1))) (dOp (oF fIx) (dVar 1) (dC (.int 1)))) (aNil))))
def sm__law_less : Sem := semOf ["_law_one", "_law_two"] b__law_less
theorem e__law_less (a0 a1 : SV) (T : Tk) (k : KD) : sm__law_less [a0, a1] T k = b__law_less { nx := fun _ T => k .non T, rt := k, bk := fun _ _ => False, ct := fun _ _ => False } [some a0, some a1] T := rfl
abbrev st__law_times : Stmt := topS 36
theorem sc__law_times : FnScope ["_law_one", "_law_two"] ["_law_one", "_law_two"] (defScope st__law_times) := ⟨rfl, rfl, rfl, by decide +kernel, rfl, by decide +kernel, by decide +kernel⟩
def b__law_times : dS := sRet (dTup (aCons (dOp (oF fSub) (dOp (oF fMul) (dOp (oF fIx) (dVar 0) (dC (.int 0))) (dOp (oF fIx) (dVar 1) (dC (.int 0)))) (dOp (oF fMul) (dOp (oF fIx) (dVar 0) (dC (.int 1))) (dOp (oF fIx) (dVar 1) (dC (.int 1))))) (aCons (dOp (oF fAdd) (dOp (oF fMul) (dOp (oF fIx) (dVar 0) (dC (.int 0))) (dOp (oF fIx) (dVar 1) (dC (.int 1)))) (dOp (oF fMul) (dOp (oF fIx) (dVar 0) (dC (.int 1))) (dOp (oF fIx) (dVar 1) (dC (.int 0))))) (aNil))))
def sm__law_times : Sem := semOf ["_law_one", "_law_two"] b__law_times
theorem e__law_times (a0 a1 : SV) (T : Tk) (k : KD) : sm__law_times [a0, a1] T k = b__law_times { nx := fun _ T => k .non T, rt := k, bk := fun _ _ => False, ct := fun _ _ => False } [some a0, some a1] T := rfl
abbrev st__law_star : Stmt := topS 37
theorem sc__law_star : FnScope ["_law_one"] ["_law_one"] (defScope st__law_star) := ⟨rfl, rfl, rfl, by decide +kernel, rfl, by decide +kernel, by decide +kernel⟩
def b__law_star : dS := sRet (dTup (aCons (dOp (oF fIx) (dVar 0) (dC (.int 0))) (aCons (dOp (oF fSub) (dC (.int 0)) (dOp (oF fIx) (dVar 0) (dC (.int 1)))) (aNil))))
def sm__law_star : Sem := semOf ["_law_one"] b__law_star
theorem e__law_star (a0 : SV) (T : Tk) (k : KD) : sm__law_star [a0] T k = b__law_star { nx := fun _ T => k .non T, rt := k, bk := fun _ _ => False, ct := fun _ _ => False } [some a0] T := rfl
abbrev st__law_size : Stmt := topS 38
theorem sc__law_size : FnScope ["_law_one"] ["_law_one"] (defScope st__law_size) := ⟨rfl, rfl, rfl, by decide +kernel, rfl, by decide +kernel, by decide +kernel⟩
def b__law_size : dS := sRet (dOp (oF fAdd) (dOp (oF fMul) (dOp (oF fIx) (dVar 0) (dC (.int 0))) (dOp (oF fIx) (dVar 0) (dC (.int 0)))) (dOp (oF fMul) (dOp (oF fIx) (dVar 0) (dC (.int 1))) (dOp (oF fIx) (dVar 0) (dC (.int 1)))))
def sm__law_size : Sem := semOf ["_law_one"] b__law_size
theorem e__law_size (a0 : SV) (T : Tk) (k : KD) : sm__law_size [a0] T k = b__law_size { nx := fun _ T => k .non T, rt := k, bk := fun _ _ => False, ct := fun _ _ => False } [some a0] T := rfl
abbrev st__law_quarter : Stmt := topS 39
theorem sc__law_quarter : FnScope ["_law_one", "_law_a", "_law_b", "_law_turn"] ["_law_one"] (defScope st__law_quarter) := ⟨rfl, rfl, rfl, by decide +kernel, rfl, by decide +kernel, by decide +kernel⟩
def b__law_quarter : dS := sSeq (sAsg (dVar 0) (gTL 2 (gsCons (gN 1) (gsCons (gN 2) (gsNil))))) (sSeq (sForI (iR1 (aCons (dC (.int 4)) (aNil))) (gN 3) (sSeq (sIf (dAnd (dTst (dOp (oF fGt) (dVar 1) (dC (.int 0)))) (dTst (dOp (oF fGe) (dVar 2) (dC (.int 0))))) (sRet (dTup (aCons (dVar 1) (aCons (dVar 2) (aNil))))) ((fun k ρ T => k.nx ρ T))) (sPar 1 2 (aCons (dOp (oF fSub) (dC (.int 0)) (dVar 2)) (aCons (dVar 1) (aNil)))))) (sRet (dTup (aCons (dC (.int 0)) (aCons (dC (.int 0)) (aNil))))))
def sm__law_quarter : Sem := semOf ["_law_one", "_law_a", "_law_b", "_law_turn"] b__law_quarter
theorem e__law_quarter (a0 : SV) (T : Tk) (k : KD) : sm__law_quarter [a0] T k = b__law_quarter { nx := fun _ T => k .non T, rt := k, bk := fun _ _ => False, ct := fun _ _ => False } [some a0, none, none, none] T := rfl
abbrev st__law_over : Stmt := topS 40
theorem sc__law_over : FnScope ["_law_one", "_law_two", "_law_size_here", "_law_a", "_law_b"] ["_law_one", "_law_two"] (defScope st__law_over) := ⟨rfl, rfl, rfl, by decide +kernel, rfl, by decide +kernel, by decide +kernel⟩
def b__law_over : dS := sSeq (sAsg (dCall 1 sm__law_size (aCons (dVar 1) (aNil))) (gN 2)) (sSeq (sIf (dTst (dOp (oF fEq) (dVar 2) (dC (.int 0)))) (sRet (dC .non)) ((fun k ρ T => k.nx ρ T))) (sSeq (sAsg (dCall 2 sm__law_times (aCons (dVar 0) (aCons (dCall 1 sm__law_star (aCons (dVar 1) (aNil))) (aNil)))) (gTL 2 (gsCons (gN 3) (gsCons (gN 4) (gsNil))))) (sRet (dIf (dAnd (dTst (dOp (oF fEq) (dOp (oF fMod) (dBlt (oG fInt) (aCons (dVar 3) (aNil))) (dVar 2)) (dC (.int 0)))) (dTst (dOp (oF fEq) (dOp (oF fMod) (dBlt (oG fInt) (aCons (dVar 4) (aNil))) (dVar 2)) (dC (.int 0))))) (dTup (aCons (dOp (oF fDiv) (dVar 3) (dVar 2)) (aCons (dOp (oF fDiv) (dVar 4) (dVar 2)) (aNil)))) (dC .non)))))
def sm__law_over : Sem := semOf ["_law_one", "_law_two", "_law_size_here", "_law_a", "_law_b"] b__law_over
theorem e__law_over (a0 a1 : SV) (T : Tk) (k : KD) : sm__law_over [a0, a1] T k = b__law_over { nx := fun _ T => k .non T, rt := k, bk := fun _ _ => False, ct := fun _ _ => False } [some a0, some a1, none, none, none] T := rfl
abbrev st__law_common : Stmt := topS 41
theorem sc__law_common : FnScope ["_law_numbers", "_law_found", "_law_number_here", "_law_one", "_law_two", "_law_turn", "_law_size_here", "_law_a", "_law_b", "_law_near"] ["_law_numbers"] (defScope st__law_common) := ⟨rfl, rfl, rfl, by decide +kernel, rfl, by decide +kernel, by decide +kernel⟩
def b__law_common : dS := sSeq (sAsg (dTup (aCons (dC (.int 0)) (aCons (dC (.int 0)) (aNil)))) (gN 1)) (sSeq (sForI (iQ (dVar 0)) (gN 2) (sSeq (sPar 3 4 (aCons (dVar 1) (aCons (dVar 2) (aNil)))) (sSeq (sForI (iR1 (aCons (dC (.int 2000)) (aNil))) (gN 5) (sSeq (sAsg (dCall 1 sm__law_size (aCons (dVar 4) (aNil))) (gN 6)) (sSeq (sIf (dTst (dOp (oF fEq) (dVar 6) (dC (.int 0)))) ((fun k ρ T => k.bk ρ T)) ((fun k ρ T => k.nx ρ T))) (sSeq (sAsg (dCall 2 sm__law_times (aCons (dVar 3) (aCons (dCall 1 sm__law_star (aCons (dVar 4) (aNil))) (aNil)))) (gTL 2 (gsCons (gN 7) (gsCons (gN 8) (gsNil))))) (sSeq (sAsg (dTup (aCons (dOp (oF fDiv) (dOp (oF fAdd) (dOp (oF fMul) (dC (.int 2)) (dVar 7)) (dVar 6)) (dOp (oF fMul) (dC (.int 2)) (dVar 6))) (aCons (dOp (oF fDiv) (dOp (oF fAdd) (dOp (oF fMul) (dC (.int 2)) (dVar 8)) (dVar 6)) (dOp (oF fMul) (dC (.int 2)) (dVar 6))) (aNil)))) (gN 9)) (sPar 3 4 (aCons (dVar 4) (aCons (dCall 2 sm__law_less (aCons (dVar 3) (aCons (dCall 2 sm__law_times (aCons (dVar 9) (aCons (dVar 4) (aNil)))) (aNil)))) (aNil))))))))) (sAsg (dVar 3) (gN 1))))) (sRet (dVar 1)))
def sm__law_common : Sem := semOf ["_law_numbers", "_law_found", "_law_number_here", "_law_one", "_law_two", "_law_turn", "_law_size_here", "_law_a", "_law_b", "_law_near"] b__law_common
theorem e__law_common (a0 : SV) (T : Tk) (k : KD) : sm__law_common [a0] T k = b__law_common { nx := fun _ T => k .non T, rt := k, bk := fun _ _ => False, ct := fun _ _ => False } [some a0, none, none, none, none, none, none, none, none, none] T := rfl
abbrev st__law_is_whole : Stmt := topS 42
theorem sc__law_is_whole : FnScope ["_law_thing", "_law_many", "_law_each"] ["_law_thing", "_law_many"] (defScope st__law_is_whole) := ⟨rfl, rfl, rfl, by decide +kernel, rfl, by decide +kernel, by decide +kernel⟩
def b__law_is_whole : dS := sSeq (sIf (dOr (dNot (dTst (dIsi .tuple (dVar 0)))) (dTst (dOp (oF fNe) (dBlt (oG fLen) (aCons (dVar 0) (aNil))) (dVar 1)))) (sRet (dC (.bl false))) ((fun k ρ T => k.nx ρ T))) (sRet (dOp (oF fEq) (dLc [2] (iQ (dVar 0)) (cN 2) (dOr (dNot (dTst (dIsi .int (dVar 2)))) (dTst (dIsi .bool (dVar 2)))) (dVar 2)) (dLst (aNil))))
def sm__law_is_whole : Sem := semOf ["_law_thing", "_law_many", "_law_each"] b__law_is_whole
theorem e__law_is_whole (a0 a1 : SV) (T : Tk) (k : KD) : sm__law_is_whole [a0, a1] T k = b__law_is_whole { nx := fun _ T => k .non T, rt := k, bk := fun _ _ => False, ct := fun _ _ => False } [some a0, some a1, none] T := rfl
abbrev st__law_complex : Stmt := topS 43
theorem sc__law_complex : FnScope ["_law_tank_here"] ["_law_tank_here"] (defScope st__law_complex) := ⟨rfl, rfl, rfl, by decide +kernel, rfl, by decide +kernel, by decide +kernel⟩
def b__law_complex : dS := sRet (dTup (aCons (dCall 1 sm__law_number (aTank 0 (aNil))) (aCons (dCall 1 sm__law_number (aTank 0 (aNil))) (aNil))))
def sm__law_complex : Sem := semOf ["_law_tank_here"] b__law_complex
theorem e__law_complex (a0 : SV) (T : Tk) (k : KD) : sm__law_complex [a0] T k = b__law_complex { nx := fun _ T => k .non T, rt := k, bk := fun _ _ => False, ct := fun _ _ => False } [some a0] T := rfl
abbrev st__law_little : Stmt := topS 44
theorem sc__law_little : FnScope ["_law_tank_here"] ["_law_tank_here"] (defScope st__law_little) := ⟨rfl, rfl, rfl, by decide +kernel, rfl, by decide +kernel, by decide +kernel⟩
def b__law_little : dS := sRet (dTup (aCons (dCall 1 sm__law_small (aTank 0 (aNil))) (aCons (dCall 1 sm__law_small (aTank 0 (aNil))) (aNil))))
def sm__law_little : Sem := semOf ["_law_tank_here"] b__law_little
theorem e__law_little (a0 : SV) (T : Tk) (k : KD) : sm__law_little [a0] T k = b__law_little { nx := fun _ T => k .non T, rt := k, bk := fun _ _ => False, ct := fun _ _ => False } [some a0] T := rfl
abbrev st__law_map : Stmt := topS 45
theorem sc__law_map : FnScope ["_law_flag", "_law_numbers", "_law_part", "_law_rest", "_law_each", "_law_first", "_law_unit"] ["_law_flag", "_law_numbers"] (defScope st__law_map) := ⟨rfl, rfl, rfl, by decide +kernel, rfl, by decide +kernel, by decide +kernel⟩
def b__law_map : dS := sSeq (sAsg (dCall 1 sm__law_common (aCons (dVar 1) (aNil))) (gN 2)) (sSeq (sAsg (dLc [4] (iQ (dVar 1)) (cN 4) dYes (dCall 2 sm__law_over (aCons (dVar 4) (aCons (dVar 2) (aNil))))) (gN 3)) (sSeq (sAsg (dOp (oF fIx) (dLc [4] (iQ (dVar 3)) (cN 4) (dTst (dOp (oF fNe) (dVar 4) (dTup (aCons (dC (.int 0)) (aCons (dC (.int 0)) (aNil)))))) (dVar 4)) (dC (.int 0))) (gN 5)) (sSeq (sAsg (dCall 2 sm__law_over (aCons (dCall 1 sm__law_quarter (aCons (dVar 5) (aNil))) (aCons (dVar 5) (aNil)))) (gN 6)) (sSeq (sAsg (dLc [4] (iQ (dVar 3)) (cN 4) dYes (dCall 2 sm__law_times (aCons (dVar 4) (aCons (dVar 6) (aNil))))) (gN 3)) (sRet (dTup (aCons (dVar 0) (aCons (dOp (oF fIx) (dVar 3) (dC (.int 0))) (aCons (dOp (oF fIx) (dVar 3) (dC (.int 1))) (aCons (dOp (oF fIx) (dVar 3) (dC (.int 2))) (aCons (dOp (oF fIx) (dVar 3) (dC (.int 3))) (aNil))))))))))))
def sm__law_map : Sem := semOf ["_law_flag", "_law_numbers", "_law_part", "_law_rest", "_law_each", "_law_first", "_law_unit"] b__law_map
theorem e__law_map (a0 a1 : SV) (T : Tk) (k : KD) : sm__law_map [a0, a1] T k = b__law_map { nx := fun _ T => k .non T, rt := k, bk := fun _ _ => False, ct := fun _ _ => False } [some a0, some a1, none, none, none, none, none] T := rfl
abbrev st__law_det : Stmt := topS 46
theorem sc__law_det : FnScope ["_law_numbers"] ["_law_numbers"] (defScope st__law_det) := ⟨rfl, rfl, rfl, by decide +kernel, rfl, by decide +kernel, by decide +kernel⟩
def b__law_det : dS := sRet (dCall 2 sm__law_less (aCons (dCall 2 sm__law_times (aCons (dOp (oF fIx) (dVar 0) (dC (.int 0))) (aCons (dOp (oF fIx) (dVar 0) (dC (.int 3))) (aNil)))) (aCons (dCall 2 sm__law_times (aCons (dOp (oF fIx) (dVar 0) (dC (.int 1))) (aCons (dOp (oF fIx) (dVar 0) (dC (.int 2))) (aNil)))) (aNil))))
def sm__law_det : Sem := semOf ["_law_numbers"] b__law_det
theorem e__law_det (a0 : SV) (T : Tk) (k : KD) : sm__law_det [a0] T k = b__law_det { nx := fun _ T => k .non T, rt := k, bk := fun _ _ => False, ct := fun _ _ => False } [some a0] T := rfl
abbrev st__law_four : Stmt := topS 47
theorem sc__law_four : FnScope ["_law_tank_here", "_law_way", "_law_turn", "_law_found"] ["_law_tank_here"] (defScope st__law_four) := ⟨rfl, rfl, rfl, by decide +kernel, rfl, by decide +kernel, by decide +kernel⟩
def b__law_four : dS := sSeq (sAsg (dCall 2 sm__law_draw (aTank 0 (aCons (dC (.int 8)) (aNil)))) (gN 1)) (sSeq (sForI (iR1 (aCons (dC (.int 3)) (aNil))) (gN 2) (sSeq (sOwn 3 (aCons (dCall 1 sm__law_little (aTank 0 (aNil))) (aCons (dCall 1 sm__law_little (aTank 0 (aNil))) (aCons (dCall 1 sm__law_little (aTank 0 (aNil))) (aCons (dCall 1 sm__law_little (aTank 0 (aNil))) (aNil)))))) (sSeq (sIf (dTst (dOp (oF fEq) (dVar 1) (dC (.int 0)))) (sAsg (dTup (aCons (dTup (aCons (dC (.int 1)) (aCons (dC (.int 0)) (aNil)))) (aCons (dTup (aCons (dC (.int 0)) (aCons (dC (.int 0)) (aNil)))) (aCons (dTup (aCons (dC (.int 1)) (aCons (dC (.int 0)) (aNil)))) (aNil))))) (gTL 3 (gsCons (gOs 3 (dC (.int 0))) (gsCons (gOs 3 (dC (.int 2))) (gsCons (gOs 3 (dC (.int 3))) (gsNil)))))) ((fun k ρ T => k.nx ρ T))) (sSeq (sIf (dTst (dOp (oF fEq) (dVar 1) (dC (.int 1)))) (sAsg (dTup (aCons (dTup (aCons (dC (.int 0)) (aCons (dC (.int 0)) (aNil)))) (aCons (dTup (aCons (dC (.int 0)) (aCons (dC (.int 0)) (aNil)))) (aNil)))) (gTL 2 (gsCons (gOs 3 (dC (.int 1))) (gsCons (gOs 3 (dC (.int 2))) (gsNil))))) ((fun k ρ T => k.nx ρ T))) (sSeq (sIf (dTst (dOp (oF fEq) (dVar 1) (dC (.int 2)))) (sAsg (dTup (aCons (dTup (aCons (dC (.int 0)) (aCons (dC (.int 0)) (aNil)))) (aCons (dTup (aCons (dC (.int 0)) (aCons (dC (.int 0)) (aNil)))) (aNil)))) (gTL 2 (gsCons (gOs 3 (dC (.int 0))) (gsCons (gOs 3 (dC (.int 3))) (gsNil))))) ((fun k ρ T => k.nx ρ T))) (sIf (dViewT 3 (dTst (dOp (oF fNe) (dCall 1 sm__law_det (aCons (dVar 3) (aNil))) (dTup (aCons (dC (.int 0)) (aCons (dC (.int 0)) (aNil))))))) (sFrq 3 (sRet (dVar 3))) ((fun k ρ T => k.nx ρ T)))))))) (sRet (dLst (aCons (dTup (aCons (dC (.int 1)) (aCons (dC (.int 0)) (aNil)))) (aCons (dTup (aCons (dC (.int 2)) (aCons (dC (.int 1)) (aNil)))) (aCons (dTup (aCons (dC (.int 0)) (aCons (dC (.int 0)) (aNil)))) (aCons (dTup (aCons (dC (.int 1)) (aCons (dC (.int 0)) (aNil)))) (aNil))))))))
def sm__law_four : Sem := semOf ["_law_tank_here", "_law_way", "_law_turn", "_law_found"] b__law_four
theorem e__law_four (a0 : SV) (T : Tk) (k : KD) : sm__law_four [a0] T k = b__law_four { nx := fun _ T => k .non T, rt := k, bk := fun _ _ => False, ct := fun _ _ => False } [some a0, none, none, none] T := rfl
abbrev st__law_is_map : Stmt := topS 48
theorem sc__law_is_map : FnScope ["_law_thing", "_law_each"] ["_law_thing"] (defScope st__law_is_map) := ⟨rfl, rfl, rfl, by decide +kernel, rfl, by decide +kernel, by decide +kernel⟩
def b__law_is_map : dS := sSeq (sIf (dOr (dNot (dTst (dIsi .tuple (dVar 0)))) (dOr (dTst (dOp (oF fNe) (dBlt (oG fLen) (aCons (dVar 0) (aNil))) (dC (.int 5)))) (dOr (dNot (dTst (dCall 2 sm__law_is_whole (aCons (dSlQ (dVar 0) (fun _ T k => k none T) (pSome (dC (.int 1)))) (aCons (dC (.int 1)) (aNil)))))) (dTst (dOp (oF fNotInS) (dOp (oF fIx) (dVar 0) (dC (.int 0))) (dTup (aCons (dC (.int 0)) (aCons (dC (.int 1)) (aNil))))))))) (sRet (dC (.bl false))) ((fun k ρ T => k.nx ρ T))) (sSeq (sForI (iQ (dSlQ (dVar 0) (pSome (dC (.int 1))) (fun _ T k => k none T))) (gN 1) (sIf (dNot (dTst (dCall 2 sm__law_is_whole (aCons (dVar 1) (aCons (dC (.int 2)) (aNil)))))) (sRet (dC (.bl false))) ((fun k ρ T => k.nx ρ T)))) (sSeq (sIf (dTst (dOp (oF fEq) (dCall 1 sm__law_det (aCons (dSlQ (dVar 0) (pSome (dC (.int 1))) (fun _ T k => k none T)) (aNil))) (dTup (aCons (dC (.int 0)) (aCons (dC (.int 0)) (aNil)))))) (sRet (dC (.bl false))) ((fun k ρ T => k.nx ρ T))) (sRet (dOp (oF fEq) (dCall 2 sm__law_map (aCons (dOp (oF fIx) (dVar 0) (dC (.int 0))) (aCons (dSlQ (dVar 0) (pSome (dC (.int 1))) (fun _ T k => k none T)) (aNil)))) (dVar 0)))))
def sm__law_is_map : Sem := semOf ["_law_thing", "_law_each"] b__law_is_map
theorem e__law_is_map (a0 : SV) (T : Tk) (k : KD) : sm__law_is_map [a0] T k = b__law_is_map { nx := fun _ T => k .non T, rt := k, bk := fun _ _ => False, ct := fun _ _ => False } [some a0, none] T := rfl
abbrev st__law_is_along : Stmt := topS 49
theorem sc__law_is_along : FnScope ["_law_told", "_law_numbers", "_law_j", "_law_i"] ["_law_told", "_law_numbers"] (defScope st__law_is_along) := ⟨rfl, rfl, rfl, by decide +kernel, rfl, by decide +kernel, by decide +kernel⟩
def b__law_is_along : dS := sSeq (sForI (iR1 (aCons (dC (.int 4)) (aNil))) (gN 2) (sForI (iR1 (aCons (dVar 2) (aNil))) (gN 3) (sIf (dTst (dOp (oF fNe) (dCall 2 sm__law_times (aCons (dOp (oF fIx) (dVar 0) (dOp (oF fAdd) (dC (.int 1)) (dVar 3))) (aCons (dOp (oF fIx) (dVar 1) (dVar 2)) (aNil)))) (dCall 2 sm__law_times (aCons (dOp (oF fIx) (dVar 0) (dOp (oF fAdd) (dC (.int 1)) (dVar 2))) (aCons (dOp (oF fIx) (dVar 1) (dVar 3)) (aNil)))))) (sRet (dC (.bl false))) ((fun k ρ T => k.nx ρ T))))) (sRet (dC (.bl true)))
def sm__law_is_along : Sem := semOf ["_law_told", "_law_numbers", "_law_j", "_law_i"] b__law_is_along
theorem e__law_is_along (a0 a1 : SV) (T : Tk) (k : KD) : sm__law_is_along [a0, a1] T k = b__law_is_along { nx := fun _ T => k .non T, rt := k, bk := fun _ _ => False, ct := fun _ _ => False } [some a0, some a1, none, none] T := rfl
abbrev st__law_form_right : Stmt := topS 50
theorem sc__law_form_right : FnScope ["_law_flag", "_law_numbers", "_law_times_here", "_law_a", "_law_b", "_law_c", "_law_d", "_law_told", "_law_each", "_law_longer"] ["_law_flag", "_law_numbers", "_law_times_here"] (defScope st__law_form_right) := ⟨rfl, rfl, rfl, by decide +kernel, rfl, by decide +kernel, by decide +kernel⟩
def b__law_form_right : dS := sSeq (sAsg (dVar 1) (gTL 4 (gsCons (gN 3) (gsCons (gN 4) (gsCons (gN 5) (gsCons (gN 6) (gsNil))))))) (sSeq (sAsg (dCall 5 sm_map_of (aCons (dVar 0) (aCons (dVar 3) (aCons (dVar 4) (aCons (dVar 5) (aCons (dVar 6) (aNil))))))) (gN 7)) (sSeq (sIf (dOr (dNot (dTst (dCall 1 sm__law_is_map (aCons (dVar 7) (aNil))))) (dOr (dTst (dOp (oF fNe) (dOp (oF fIx) (dVar 7) (dC (.int 0))) (dVar 0))) (dOr (dNot (dTst (dCall 2 sm__law_is_along (aCons (dVar 7) (aCons (dVar 1) (aNil)))))) (dTst (dOp (oF fIsn) (dCall 1 sm_is_map (aCons (dVar 7) (aNil))) (dC (.bl true))))))) (sRet (dC (.bl false))) ((fun k ρ T => k.nx ρ T))) (sSeq (sAsg (dLc [8] (iQ (dVar 1)) (cN 8) dYes (dCall 2 sm__law_times (aCons (dVar 8) (aCons (dVar 2) (aNil))))) (gTL 4 (gsCons (gN 3) (gsCons (gN 4) (gsCons (gN 5) (gsCons (gN 6) (gsNil))))))) (sSeq (sAsg (dCall 5 sm_map_of (aCons (dVar 0) (aCons (dVar 3) (aCons (dVar 4) (aCons (dVar 5) (aCons (dVar 6) (aNil))))))) (gN 9)) (sRet (dOp (oF fEq) (dBlt (oG fRepr) (aCons (dLst (aCons (dVar 9) (aCons (dCall 5 sm_map_of (aCons (dVar 0) (aCons (dOp (oF fIx) (dVar 7) (dC (.int 1))) (aCons (dOp (oF fIx) (dVar 7) (dC (.int 2))) (aCons (dOp (oF fIx) (dVar 7) (dC (.int 3))) (aCons (dOp (oF fIx) (dVar 7) (dC (.int 4))) (aNil))))))) (aNil)))) (aNil))) (dBlt (oG fRepr) (aCons (dLst (aCons (dVar 7) (aCons (dVar 7) (aNil)))) (aNil)))))))))
def sm__law_form_right : Sem := semOf ["_law_flag", "_law_numbers", "_law_times_here", "_law_a", "_law_b", "_law_c", "_law_d", "_law_told", "_law_each", "_law_longer"] b__law_form_right
theorem e__law_form_right (a0 a1 a2 : SV) (T : Tk) (k : KD) : sm__law_form_right [a0, a1, a2] T k = b__law_form_right { nx := fun _ T => k .non T, rt := k, bk := fun _ _ => False, ct := fun _ _ => False } [some a0, some a1, some a2, none, none, none, none, none, none, none] T := rfl
abbrev st__law_is_refused : Stmt := topS 51
theorem sc__law_is_refused : FnScope ["_law_flag", "_law_numbers", "_law_a", "_law_b", "_law_c", "_law_d"] ["_law_flag", "_law_numbers"] (defScope st__law_is_refused) := ⟨rfl, rfl, rfl, by decide +kernel, rfl, by decide +kernel, by decide +kernel⟩
def b__law_is_refused : dS := sSeq (sAsg (dVar 1) (gTL 4 (gsCons (gN 2) (gsCons (gN 3) (gsCons (gN 4) (gsCons (gN 5) (gsNil))))))) (sSeq (sTryO mt_NoMap (fun r => sExpr (dCallX 5 se_map_of r (aCons (dVar 0) (aCons (dVar 2) (aCons (dVar 3) (aCons (dVar 4) (aCons (dVar 5) (aNil)))))))) (sRet (dC (.bl true)))) (sRet (dC (.bl false))))
def sm__law_is_refused : Sem := semOf ["_law_flag", "_law_numbers", "_law_a", "_law_b", "_law_c", "_law_d"] b__law_is_refused
theorem e__law_is_refused (a0 a1 : SV) (T : Tk) (k : KD) : sm__law_is_refused [a0, a1] T k = b__law_is_refused { nx := fun _ T => k .non T, rt := k, bk := fun _ _ => False, ct := fun _ _ => False } [some a0, some a1, none, none, none, none] T := rfl
abbrev st__law_value : Stmt := topS 52
theorem sc__law_value : FnScope ["_law_tank_here", "_law_flag", "_law_numbers", "_law_way", "_law_chart", "_law_at", "_law_times_here", "_law_each"] ["_law_tank_here"] (defScope st__law_value) := ⟨rfl, rfl, rfl, by decide +kernel, rfl, by decide +kernel, by decide +kernel⟩
def b__law_value : dS := sSeq (sPar3 1 2 3 (aCons (dCall 2 sm__law_draw (aTank 0 (aCons (dC (.int 2)) (aNil)))) (aCons (dCall 1 sm__law_four (aTank 0 (aNil))) (aCons (dCall 2 sm__law_draw (aTank 0 (aCons (dC (.int 9)) (aNil)))) (aNil))))) (sSeq (sPar 4 5 (aCons (dCall 2 sm__law_map (aCons (dVar 1) (aCons (dVar 2) (aNil)))) (aCons (dOp (oF fAdd) (dC (.int 1)) (dCall 2 sm__law_draw (aTank 0 (aCons (dC (.int 4)) (aNil))))) (aNil)))) (sSeq (sIf (dTst (dOp (oF fEq) (dVar 3) (dC (.int 0)))) (sSeq (sAsg (dCall 2 sm__law_pick (aTank 0 (aCons (dTup (aCons (dTup (aCons (dC (.int 0)) (aCons (dC (.int 1)) (aNil)))) (aCons (dTup (aCons (dNeg (dC (.int 1))) (aCons (dC (.int 0)) (aNil)))) (aCons (dTup (aCons (dC (.int 2)) (aCons (dC (.int 0)) (aNil)))) (aCons (dTup (aCons (dC (.int 1)) (aCons (dC (.int 1)) (aNil)))) (aNil)))))) (aNil)))) (gN 6)) (sRet (dOp (oF fAdd) (dTup (aCons (dVar 1) (aNil))) (dBlt (oG fTuple) (aCons (dLc [7] (iQ (dSlQ (dVar 4) (pSome (dC (.int 1))) (fun _ T k => k none T))) (cN 7) dYes (dCall 2 sm__law_times (aCons (dVar 7) (aCons (dVar 6) (aNil))))) (aNil)))))) ((fun k ρ T => k.nx ρ T))) (sSeq (sIf (dTst (dOp (oF fEq) (dVar 3) (dC (.int 1)))) (sRet (dOp (oF fAdd) (dOp (oF fAdd) (dSlQ (dVar 4) (fun _ T k => k none T) (pSome (dVar 5))) (dTup (aCons (dCall 2 sm__law_pick (aTank 0 (aCons (dTup (aCons (dC .non) (aCons (dTup (aCons (dC (.int 1)) (aNil))) (aCons (dTup (aCons (dC (.int 1)) (aCons (dC (.int 2)) (aCons (dC (.int 3)) (aNil))))) (aCons (dLst (aCons (dC (.int 1)) (aCons (dC (.int 0)) (aNil)))) (aCons (dTup (aCons (dC (.bl true)) (aCons (dC (.int 0)) (aNil)))) (aCons (dC (.int 3)) (aCons (dC (.str "1")) (aNil))))))))) (aNil)))) (aNil)))) (dSlQ (dVar 4) (pSome (dOp (oF fAdd) (dVar 5) (dC (.int 1)))) (fun _ T k => k none T)))) ((fun k ρ T => k.nx ρ T))) (sSeq (sIf (dTst (dOp (oF fEq) (dVar 3) (dC (.int 2)))) (sRet (dOp (oF fAdd) (dTup (aCons (dCall 2 sm__law_pick (aTank 0 (aCons (dTup (aCons (dC (.int 2)) (aCons (dNeg (dC (.int 1))) (aCons (dC (.bl true)) (aCons (dC (.bl false)) (aCons (dC .non) (aCons (dC (.str "0")) (aNil)))))))) (aNil)))) (aNil))) (dSlQ (dVar 4) (pSome (dC (.int 1))) (fun _ T k => k none T)))) ((fun k ρ T => k.nx ρ T))) (sSeq (sIf (dTst (dOp (oF fEq) (dVar 3) (dC (.int 3)))) (sRet (dCall 2 sm__law_pick (aTank 0 (aCons (dTup (aCons (dBlt (oG fList) (aCons (dVar 4) (aNil))) (aCons (dSlQ (dVar 4) (fun _ T k => k none T) (pSome (dC (.int 4)))) (aCons (dOp (oF fAdd) (dVar 4) (dTup (aCons (dTup (aCons (dC (.int 0)) (aCons (dC (.int 0)) (aNil)))) (aNil)))) (aCons (dSlQ (dVar 4) (pSome (dC (.int 1))) (fun _ T k => k none T)) (aCons (dC .non) (aCons (dC (.int 0)) (aCons (dTup (aNil)) (aCons (dC (.str "map")) (aCons (dDct0) (aNil))))))))))) (aNil))))) ((fun k ρ T => k.nx ρ T))) (sSeq (sIf (dTst (dOp (oF fEq) (dVar 3) (dC (.int 4)))) (sRet (dOp (oF fAdd) (dTup (aCons (dVar 1) (aNil))) (dCall 2 sm__law_pick (aTank 0 (aCons (dTup (aCons (dOp (oF fMulT) (dTup (aCons (dTup (aCons (dC (.int 0)) (aCons (dC (.int 0)) (aNil)))) (aNil))) (dC (.int 4))) (aCons (dTup (aCons (dTup (aCons (dC (.int 1)) (aCons (dC (.int 0)) (aNil)))) (aCons (dTup (aCons (dC (.int 1)) (aCons (dC (.int 0)) (aNil)))) (aCons (dTup (aCons (dC (.int 1)) (aCons (dC (.int 0)) (aNil)))) (aCons (dTup (aCons (dC (.int 1)) (aCons (dC (.int 0)) (aNil)))) (aNil)))))) (aCons (dTup (aCons (dTup (aCons (dC (.int 1)) (aCons (dC (.int 1)) (aNil)))) (aCons (dTup (aCons (dC (.int 2)) (aCons (dC (.int 0)) (aNil)))) (aCons (dTup (aCons (dC (.int 1)) (aCons (dC (.int 0)) (aNil)))) (aCons (dTup (aCons (dC (.int 1)) (aCons (dNeg (dC (.int 1))) (aNil)))) (aNil)))))) (aNil))))) (aNil)))))) ((fun k ρ T => k.nx ρ T))) (sRet (dIf (dTst (dOp (oF fLt) (dVar 3) (dC (.int 7)))) (dOp (oF fAdd) (dTup (aCons (dVar 1) (aNil))) (dBlt (oG fTuple) (aCons (dVar 2) (aNil)))) (dVar 4)))))))))
def sm__law_value : Sem := semOf ["_law_tank_here", "_law_flag", "_law_numbers", "_law_way", "_law_chart", "_law_at", "_law_times_here", "_law_each"] b__law_value
theorem e__law_value (a0 : SV) (T : Tk) (k : KD) : sm__law_value [a0] T k = b__law_value { nx := fun _ T => k .non T, rt := k, bk := fun _ _ => False, ct := fun _ _ => False } [some a0, none, none, none, none, none, none, none] T := rfl
abbrev st__law_right : Stmt := topS 53
theorem sc__law_right : FnScope ["_law_tank_here", "_law_flag", "_law_numbers", "_law_times_here", "_law_great", "_law_one", "_law_two", "_law_flat", "_law_turn", "_law_thing", "_law_due"] ["_law_tank_here"] (defScope st__law_right) := ⟨rfl, rfl, rfl, by decide +kernel, rfl, by decide +kernel, by decide +kernel⟩
def b__law_right : dS := sSeq (sPar3 1 2 3 (aCons (dCall 2 sm__law_draw (aTank 0 (aCons (dC (.int 2)) (aNil)))) (aCons (dCall 1 sm__law_four (aTank 0 (aNil))) (aCons (dCall 1 sm__law_complex (aTank 0 (aNil))) (aNil))))) (sSeq (sAsg (dIf (dTst (dOp (oF fNe) (dVar 3) (dTup (aCons (dC (.int 0)) (aCons (dC (.int 0)) (aNil)))))) (dVar 3) (dTup (aCons (dC (.int 0)) (aCons (dNeg (dC (.int 2))) (aNil))))) (gN 3)) (sSeq (sAsg (dLst (aCons (dCall 1 sm__law_complex (aTank 0 (aNil))) (aCons (dCall 1 sm__law_complex (aTank 0 (aNil))) (aCons (dCall 1 sm__law_complex (aTank 0 (aNil))) (aCons (dCall 1 sm__law_complex (aTank 0 (aNil))) (aNil)))))) (gN 4)) (sSeq (sIf (dNot (dTst (dCall 3 sm__law_form_right (aCons (dVar 1) (aCons (dVar 2) (aCons (dVar 3) (aNil))))))) (sRet (dC (.bl false))) ((fun k ρ T => k.nx ρ T))) (sSeq (sIf (dAnd (dTst (dOp (oF fNe) (dCall 1 sm__law_det (aCons (dVar 4) (aNil))) (dTup (aCons (dC (.int 0)) (aCons (dC (.int 0)) (aNil)))))) (dNot (dTst (dCall 3 sm__law_form_right (aCons (dVar 1) (aCons (dVar 4) (aCons (dVar 3) (aNil)))))))) (sRet (dC (.bl false))) ((fun k ρ T => k.nx ρ T))) (sSeq (sPar 5 6 (aCons (dCall 1 sm__law_complex (aTank 0 (aNil))) (aCons (dCall 1 sm__law_little (aTank 0 (aNil))) (aNil)))) (sSeq (sAsg (dLst (aCons (dOp (oF fIx) (dVar 4) (dC (.int 0))) (aCons (dOp (oF fIx) (dVar 4) (dC (.int 1))) (aCons (dCall 2 sm__law_times (aCons (dOp (oF fIx) (dVar 4) (dC (.int 0))) (aCons (dVar 6) (aNil)))) (aCons (dCall 2 sm__law_times (aCons (dOp (oF fIx) (dVar 4) (dC (.int 1))) (aCons (dVar 6) (aNil)))) (aNil)))))) (gN 7)) (sSeq (sIf (dOr (dNot (dTst (dCall 2 sm__law_is_refused (aCons (dVar 1) (aCons (dVar 7) (aNil)))))) (dNot (dTst (dCall 2 sm__law_is_refused (aCons (dVar 1) (aCons (dLst (aCons (dTup (aCons (dC (.int 0)) (aCons (dC (.int 0)) (aNil)))) (aCons (dVar 5) (aCons (dTup (aCons (dC (.int 0)) (aCons (dC (.int 0)) (aNil)))) (aCons (dVar 6) (aNil)))))) (aNil))))))) (sRet (dC (.bl false))) ((fun k ρ T => k.nx ρ T))) (sSeq (sForI (iR1 (aCons (dC (.int 4)) (aNil))) (gN 8) (sSeq (sAsg (dCall 1 sm__law_value (aTank 0 (aNil))) (gN 9)) (sSeq (sAsg (dCall 1 sm__law_is_map (aCons (dVar 9) (aNil))) (gN 10)) (sIf (dTst (dOp (oF fNe) (dBlt (oG fRepr) (aCons (dLst (aCons (dCall 1 sm_is_map (aCons (dVar 9) (aNil))) (aCons (dCall 1 sm_is_map (aCons (dVar 9) (aNil))) (aNil)))) (aNil))) (dBlt (oG fRepr) (aCons (dLst (aCons (dVar 10) (aCons (dVar 10) (aNil)))) (aNil))))) (sRet (dC (.bl false))) ((fun k ρ T => k.nx ρ T)))))) (sRet (dC (.bl true)))))))))))
def sm__law_right : Sem := semOf ["_law_tank_here", "_law_flag", "_law_numbers", "_law_times_here", "_law_great", "_law_one", "_law_two", "_law_flat", "_law_turn", "_law_thing", "_law_due"] b__law_right
theorem e__law_right (a0 : SV) (T : Tk) (k : KD) : sm__law_right [a0] T k = b__law_right { nx := fun _ T => k .non T, rt := k, bk := fun _ _ => False, ct := fun _ _ => False } [some a0, none, none, none, none, none, none, none, none, none, none] T := rfl
abbrev st_law : Stmt := topS 54
theorem sc_law : FnScope ["_law_script", "_law_spot"] ["_law_script"] (defScope st_law) := ⟨rfl, rfl, rfl, by decide +kernel, rfl, by decide +kernel, by decide +kernel⟩
def b_law : dS := sSeq (sForI (iR1 (aCons (dCall 1 sm__law_rounds (aCons (dVar 0) (aNil))) (aNil))) (gN 1) (sIf (dNot (dTst (dCallT 2 sm__law_right sm__law_tank (aCons (dVar 0) (aCons (dVar 1) (aNil)))))) (sRet (dC (.bl false))) ((fun k ρ T => k.nx ρ T)))) (sRet (dC (.bl true)))
def sm_law : Sem := semOf ["_law_script", "_law_spot"] b_law
theorem e_law (a0 : SV) (T : Tk) (k : KD) : sm_law [a0] T k = b_law { nx := fun _ T => k .non T, rt := k, bk := fun _ _ => False, ct := fun _ _ => False } [some a0, none] T := rfl
def hdD0 : List (Str × Stmt) := [("is_whole", st_is_whole), ("are_wholes", st_are_wholes), ("is_complex", st_is_complex), ("check_complex", st_check_complex), ("minus", st_minus), ("times", st_times), ("turned_over", st_turned_over), ("square_size", st_square_size), ("unit_for", st_unit_for), ("nearest", st_nearest), ("divisor_of_two", st_divisor_of_two), ("divisor_of_all", st_divisor_of_all), ("divided", st_divided), ("determinant", st_determinant), ("form_of", st_form_of), ("is_flag", st_is_flag), ("is_map", st_is_map), ("map_of", st_map_of), ("_law_tank", st__law_tank), ("_law_draw", st__law_draw), ("_law_pick", st__law_pick), ("_law_rounds", st__law_rounds), ("_law_number", st__law_number), ("_law_small", st__law_small), ("_law_less", st__law_less)]
def hdD1 : List (Str × Stmt) := [("_law_times", st__law_times), ("_law_star", st__law_star), ("_law_size", st__law_size), ("_law_quarter", st__law_quarter), ("_law_over", st__law_over), ("_law_common", st__law_common), ("_law_is_whole", st__law_is_whole), ("_law_complex", st__law_complex), ("_law_little", st__law_little), ("_law_map", st__law_map), ("_law_det", st__law_det), ("_law_four", st__law_four), ("_law_is_map", st__law_is_map), ("_law_is_along", st__law_is_along), ("_law_form_right", st__law_form_right), ("_law_is_refused", st__law_is_refused), ("_law_value", st__law_value), ("_law_right", st__law_right), ("law", st_law)]
def hdDefs : List (Str × Stmt) := hdD0 ++ hdD1
def hdFree : List Str := ["abs", "all", "bool", "divmod", "int", "isinstance", "len", "list", "max", "min", "range", "repr", "tuple"]
def hdBlt : List (Str × String) := []
def hdCons : List (Str × D) := [("UNITS", k_UNITS), ("ZERO", k_ZERO)]
def hdCls : List Str := ["NoMap"]
def hdPrs : List (Str × Str) := [("NoMap", "NoMap")]
def hd : Hd := ⟨hdDefs, hdFree, hdBlt, hdCons, hdCls, hdPrs⟩
def hdN0 : List Str := ["ArmError", "InvalidComplex", "InvalidFlag", "NoMap", "is_whole", "are_wholes", "ZERO", "UNITS", "is_complex", "check_complex", "minus", "times", "turned_over", "square_size", "unit_for", "nearest", "divisor_of_two", "divisor_of_all", "divided", "determinant", "form_of", "is_flag", "is_map", "map_of", "_law_tank", "_law_draw", "_law_pick", "_law_rounds", "_law_number", "_law_small"]
def hdN1 : List Str := ["_law_less", "_law_times", "_law_star", "_law_size", "_law_quarter", "_law_over", "_law_common", "_law_is_whole", "_law_complex", "_law_little", "_law_map", "_law_det", "_law_four", "_law_is_map", "_law_is_along", "_law_form_right", "_law_is_refused", "_law_value", "_law_right"]
def hdNames : List Str := hdN0 ++ hdN1
abbrev hdR : PySem.W.OpenRow := PySem.W.OpenLaw.row PySem.Challenge.rw_drawarms_k13_maps_and_their_form
abbrev hdV : Program := PySem.W.view hdR.prog [54]
abbrev hdK : PySem.W.Hook := hd.hook
def hdO (s : PySem.W.SharedT) : HdA := hd.obsG (HandSHeadRun.getT s)
theorem hdO_eq (s : PySem.W.SharedT) : hdO s = hdK.obs s.abs := Hd.obs_eq (HandSHeadRun.getT_eq s)
theorem hd_run (w : World) : HandSHeadRun.RunEq hdR hdV hdK hdO 20000 hdNames w := by
  intro os
  kernel_rfl
structure Tx (K : PySem.W.Frag) (mg : Str → Option Value) : Prop where
  d_is_whole : Df K mg "is_whole" st_is_whole
  d_are_wholes : Df K mg "are_wholes" st_are_wholes
  d_is_complex : Df K mg "is_complex" st_is_complex
  d_check_complex : Df K mg "check_complex" st_check_complex
  d_minus : Df K mg "minus" st_minus
  d_times : Df K mg "times" st_times
  d_turned_over : Df K mg "turned_over" st_turned_over
  d_square_size : Df K mg "square_size" st_square_size
  d_unit_for : Df K mg "unit_for" st_unit_for
  d_nearest : Df K mg "nearest" st_nearest
  d_divisor_of_two : Df K mg "divisor_of_two" st_divisor_of_two
  d_divisor_of_all : Df K mg "divisor_of_all" st_divisor_of_all
  d_divided : Df K mg "divided" st_divided
  d_determinant : Df K mg "determinant" st_determinant
  d_form_of : Df K mg "form_of" st_form_of
  d_is_flag : Df K mg "is_flag" st_is_flag
  d_is_map : Df K mg "is_map" st_is_map
  d_map_of : Df K mg "map_of" st_map_of
  d__law_tank : Df K mg "_law_tank" st__law_tank
  d__law_draw : Df K mg "_law_draw" st__law_draw
  d__law_pick : Df K mg "_law_pick" st__law_pick
  d__law_rounds : Df K mg "_law_rounds" st__law_rounds
  d__law_number : Df K mg "_law_number" st__law_number
  d__law_small : Df K mg "_law_small" st__law_small
  d__law_less : Df K mg "_law_less" st__law_less
  d__law_times : Df K mg "_law_times" st__law_times
  d__law_star : Df K mg "_law_star" st__law_star
  d__law_size : Df K mg "_law_size" st__law_size
  d__law_quarter : Df K mg "_law_quarter" st__law_quarter
  d__law_over : Df K mg "_law_over" st__law_over
  d__law_common : Df K mg "_law_common" st__law_common
  d__law_is_whole : Df K mg "_law_is_whole" st__law_is_whole
  d__law_complex : Df K mg "_law_complex" st__law_complex
  d__law_little : Df K mg "_law_little" st__law_little
  d__law_map : Df K mg "_law_map" st__law_map
  d__law_det : Df K mg "_law_det" st__law_det
  d__law_four : Df K mg "_law_four" st__law_four
  d__law_is_map : Df K mg "_law_is_map" st__law_is_map
  d__law_is_along : Df K mg "_law_is_along" st__law_is_along
  d__law_form_right : Df K mg "_law_form_right" st__law_form_right
  d__law_is_refused : Df K mg "_law_is_refused" st__law_is_refused
  d__law_value : Df K mg "_law_value" st__law_value
  d__law_right : Df K mg "_law_right" st__law_right
  d_law : Df K mg "law" st_law
  z_abs : mg "abs" = none
  z_all : mg "all" = none
  z_bool : mg "bool" = none
  z_divmod : mg "divmod" = none
  z_int : mg "int" = none
  z_isinstance : mg "isinstance" = none
  z_len : mg "len" = none
  z_list : mg "list" = none
  z_max : mg "max" = none
  z_min : mg "min" = none
  z_range : mg "range" = none
  z_repr : mg "repr" = none
  z_tuple : mg "tuple" = none
  c_UNITS : GC K mg "UNITS" k_UNITS
  c_ZERO : GC K mg "ZERO" k_ZERO
  x_NoMap : ∃ C, Xc0 K mg "NoMap" C
  m_NoMap : ∀ C, mg "NoMap" = some (.ref C) → ∀ nm cls, mt_NoMap nm = some true → mg nm = some cls → PySem.W.exmOne K cls (.ref C) = some true
section
variable {P : Program} {w : World} {K : PySem.W.Frag} {mg : Str → Option Value} {base : Heap}
theorem ok_is_whole (T : Tx K mg) : Ok P w K mg base 1 "is_whole" ["value"] sm_is_whole := by
  refine ok_def (N := ["value"]) T.d_is_whole sc_is_whole (fun _ _ _ _ _ _ us hl => match us, hl with | [_], _ => rfl) (fun _ _ _ _ _ _ us hl => match us, hl with | [_], _ => rfl) fun f cdv A fs s H E hr hgd => ?_
  have nd := sc_is_whole.nd
  exact ss_one (s_ret (d_andV (d_isi .int (d_var 0) T.z_isinstance T.z_int) (d_v1 (d_notV (d_isi .bool (d_var 0) T.z_isinstance T.z_bool)))))
theorem ok_are_wholes (T : Tx K mg) : Ok P w K mg base 2 "are_wholes" ["value", "many"] sm_are_wholes := by
  refine ok_def (N := ["value", "many", "number"]) T.d_are_wholes sc_are_wholes (fun _ _ _ _ _ _ us hl => match us, hl with | [_, _], _ => rfl) (fun _ _ _ _ _ _ us hl => match us, hl with | [_, _], _ => rfl) fun f cdv A fs s H E hr hgd => ?_
  have nd := sc_are_wholes.nd
  exact ss_one (s_ret (d_andV (d_isi .tuple (d_var 0) T.z_isinstance T.z_tuple) (d_andV (d_feq hr (g_len T.z_len (a_cons (d_var 0) (a_nil))) (d_var 1)) (d_v1 (g_all rfl T.z_all (a_cons (d_lc [("number", 2)] rfl nd (g_seq (d_var 0)) (cg_name) (fun _ _ _ _ _ => pg_name (i := 2) nd rfl (by first | exact Or.inl rfl | exact Or.inr rfl)) (fun _ _ _ _ _ => ts_nil) (fun _ _ _ _ _ => d_call (ok_is_whole T) (hr.mono (by decide)) hgd (a_cons (d_var 2) (a_nil))) (ok := blkOk_by (N := ["value", "many", "number"]) (sc := defScope st_are_wholes) (by decide +kernel))) (a_nil)))))))
theorem ok_is_complex (T : Tx K mg) : Ok P w K mg base 3 "is_complex" ["value"] sm_is_complex := by
  refine ok_def (N := ["value"]) T.d_is_complex sc_is_complex (fun _ _ _ _ _ _ us hl => match us, hl with | [_], _ => rfl) (fun _ _ _ _ _ _ us hl => match us, hl with | [_], _ => rfl) fun f cdv A fs s H E hr hgd => ?_
  have nd := sc_is_complex.nd
  exact ss_one (s_ret (d_call (ok_are_wholes T) (hr.mono (by decide)) hgd (a_cons (d_var 0) (a_cons (d_int) (a_nil)))))
theorem ok_check_complex (T : Tx K mg) : Ok P w K mg base 4 "check_complex" ["value"] sm_check_complex := by
  refine ok_def (N := ["value"]) T.d_check_complex sc_check_complex (fun _ _ _ _ _ _ us hl => match us, hl with | [_], _ => rfl) (fun _ _ _ _ _ _ us hl => match us, hl with | [_], _ => rfl) fun f cdv A fs s H E hr hgd => ?_
  have nd := sc_check_complex.nd
  exact ss_one (s_if (d_tnot (d_tst (d_call (ok_is_complex T) (hr.mono (by decide)) hgd (a_cons (d_var 0) (a_nil))))) (ss_one (s_never)) (ss_nil))
theorem ok_minus (T : Tx K mg) : Ok P w K mg base 1 "minus" ["number", "other"] sm_minus := by
  refine ok_def (N := ["number", "other"]) T.d_minus sc_minus (fun _ _ _ _ _ _ us hl => match us, hl with | [_, _], _ => rfl) (fun _ _ _ _ _ _ us hl => match us, hl with | [_, _], _ => rfl) fun f cdv A fs s H E hr hgd => ?_
  have nd := sc_minus.nd
  exact ss_one (s_ret (d_tup (a_cons (f_sub (f_ix (d_var 0) (d_int)) (f_ix (d_var 1) (d_int))) (a_cons (f_sub (f_ix (d_var 0) (d_int)) (f_ix (d_var 1) (d_int))) (a_nil)))))
theorem ok_times (T : Tx K mg) : Ok P w K mg base 1 "times" ["number", "other"] sm_times := by
  refine ok_def (N := ["number", "other"]) T.d_times sc_times (fun _ _ _ _ _ _ us hl => match us, hl with | [_, _], _ => rfl) (fun _ _ _ _ _ _ us hl => match us, hl with | [_, _], _ => rfl) fun f cdv A fs s H E hr hgd => ?_
  have nd := sc_times.nd
  exact ss_one (s_ret (d_tup (a_cons (f_sub (f_mul (f_ix (d_var 0) (d_int)) (f_ix (d_var 1) (d_int))) (f_mul (f_ix (d_var 0) (d_int)) (f_ix (d_var 1) (d_int)))) (a_cons (f_add (f_mul (f_ix (d_var 0) (d_int)) (f_ix (d_var 1) (d_int))) (f_mul (f_ix (d_var 0) (d_int)) (f_ix (d_var 1) (d_int)))) (a_nil)))))
theorem ok_turned_over (T : Tx K mg) : Ok P w K mg base 1 "turned_over" ["number"] sm_turned_over := by
  refine ok_def (N := ["number"]) T.d_turned_over sc_turned_over (fun _ _ _ _ _ _ us hl => match us, hl with | [_], _ => rfl) (fun _ _ _ _ _ _ us hl => match us, hl with | [_], _ => rfl) fun f cdv A fs s H E hr hgd => ?_
  have nd := sc_turned_over.nd
  exact ss_one (s_ret (d_tup (a_cons (f_ix (d_var 0) (d_int)) (a_cons (d_neg (f_ix (d_var 0) (d_int))) (a_nil)))))
theorem ok_square_size (T : Tx K mg) : Ok P w K mg base 1 "square_size" ["number"] sm_square_size := by
  refine ok_def (N := ["number"]) T.d_square_size sc_square_size (fun _ _ _ _ _ _ us hl => match us, hl with | [_], _ => rfl) (fun _ _ _ _ _ _ us hl => match us, hl with | [_], _ => rfl) fun f cdv A fs s H E hr hgd => ?_
  have nd := sc_square_size.nd
  exact ss_one (s_ret (f_add (f_mul (f_ix (d_var 0) (d_int)) (f_ix (d_var 0) (d_int))) (f_mul (f_ix (d_var 0) (d_int)) (f_ix (d_var 0) (d_int)))))
theorem ok_unit_for (T : Tx K mg) : Ok P w K mg base 2 "unit_for" ["number"] sm_unit_for := by
  refine ok_def (N := ["number", "unit", "found"]) T.d_unit_for sc_unit_for (fun _ _ _ _ _ _ us hl => match us, hl with | [_], _ => rfl) (fun _ _ _ _ _ _ us hl => match us, hl with | [_], _ => rfl) fun f cdv A fs s H E hr hgd => ?_
  have nd := sc_unit_for.nd
  exact ss_cons (s_forI PassesOwn.never rfl (g_seq (g_slice (d_gc T.c_UNITS) p_none (p_some (d_int)))) (g_name 1 nd) (ss_cons (s_set 2 nd (d_call (ok_times T) (hr.mono (by decide)) hgd (a_cons (d_var 0) (a_cons (d_var 1) (a_nil))))) (ss_one (s_if ((d_wand (t_fgt (f_ix (d_var 2) (d_int)) (d_int)) (d_w1a (t_fge (f_ix (d_var 2) (d_int)) (d_int)))).pt) (ss_one (s_ret (d_var 1))) (ss_nil))))) (ss_one (s_ret (f_ix (d_gc T.c_UNITS) (d_int))))
theorem ok_nearest (T : Tx K mg) : Ok P w K mg base 1 "nearest" ["number", "below"] sm_nearest := by
  refine ok_def (N := ["number", "below"]) T.d_nearest sc_nearest (fun _ _ _ _ _ _ us hl => match us, hl with | [_, _], _ => rfl) (fun _ _ _ _ _ _ us hl => match us, hl with | [_, _], _ => rfl) fun f cdv A fs s H E hr hgd => ?_
  have nd := sc_nearest.nd
  exact ss_one (s_ret (f_div (f_add (f_mul (d_int) (d_var 0)) (d_var 1)) (f_mul (d_int) (d_var 1))))
theorem ok_divisor_of_two (T : Tx K mg) : Ok P w K mg base 2 "divisor_of_two" ["number", "other"] sm_divisor_of_two := by
  refine ok_def (N := ["number", "other", "one", "two", "product", "whole"]) T.d_divisor_of_two sc_divisor_of_two (fun _ _ _ _ _ _ us hl => match us, hl with | [_, _], _ => rfl) (fun _ _ _ _ _ _ us hl => match us, hl with | [_, _], _ => rfl) fun f cdv A fs s H E hr hgd => ?_
  have nd := sc_divisor_of_two.nd
  exact ss_cons (s_par 2 3 rfl nd (a_cons (d_var 0) (a_cons (d_var 1) (a_nil)))) (ss_cons (s_while PassesOwn.never (t_fne hr (d_var 3) (d_gc T.c_ZERO)) (ss_cons (s_set 4 nd (d_call (ok_times T) (hr.mono (by decide)) hgd (a_cons (d_var 2) (a_cons (d_call (ok_turned_over T) (hr.mono (by decide)) hgd (a_cons (d_var 3) (a_nil))) (a_nil))))) (ss_cons (s_set 5 nd (d_tup (a_cons (d_call (ok_nearest T) (hr.mono (by decide)) hgd (a_cons (f_ix (d_var 4) (d_int)) (a_cons (d_call (ok_square_size T) (hr.mono (by decide)) hgd (a_cons (d_var 3) (a_nil))) (a_nil)))) (a_cons (d_call (ok_nearest T) (hr.mono (by decide)) hgd (a_cons (f_ix (d_var 4) (d_int)) (a_cons (d_call (ok_square_size T) (hr.mono (by decide)) hgd (a_cons (d_var 3) (a_nil))) (a_nil)))) (a_nil))))) (ss_one (s_par 2 3 rfl nd (a_cons (d_var 3) (a_cons (d_call (ok_minus T) (hr.mono (by decide)) hgd (a_cons (d_var 2) (a_cons (d_call (ok_times T) (hr.mono (by decide)) hgd (a_cons (d_var 5) (a_cons (d_var 3) (a_nil)))) (a_nil)))) (a_nil)))))))) (ss_one (s_ret (d_var 2))))
theorem ok_divisor_of_all (T : Tx K mg) : Ok P w K mg base 3 "divisor_of_all" ["numbers"] sm_divisor_of_all := by
  refine ok_def (N := ["numbers", "found", "number"]) T.d_divisor_of_all sc_divisor_of_all (fun _ _ _ _ _ _ us hl => match us, hl with | [_], _ => rfl) (fun _ _ _ _ _ _ us hl => match us, hl with | [_], _ => rfl) fun f cdv A fs s H E hr hgd => ?_
  have nd := sc_divisor_of_all.nd
  exact ss_cons (s_set 1 nd (d_gc T.c_ZERO)) (ss_cons (s_forI PassesOwn.never rfl (g_seq (d_var 0)) (g_name 2 nd) (ss_one (s_set 1 nd (d_call (ok_divisor_of_two T) (hr.mono (by decide)) hgd (a_cons (d_var 1) (a_cons (d_var 2) (a_nil))))))) (ss_one (s_ret (d_var 1))))
theorem ok_divided (T : Tx K mg) : Ok P w K mg base 2 "divided" ["number", "other"] sm_divided := by
  refine ok_def (N := ["number", "other", "product", "below"]) T.d_divided sc_divided (fun _ _ _ _ _ _ us hl => match us, hl with | [_, _], _ => rfl) (fun _ _ _ _ _ _ us hl => match us, hl with | [_, _], _ => rfl) fun f cdv A fs s H E hr hgd => ?_
  have nd := sc_divided.nd
  exact ss_cons (s_par 2 3 rfl nd (a_cons (d_call (ok_times T) (hr.mono (by decide)) hgd (a_cons (d_var 0) (a_cons (d_call (ok_turned_over T) (hr.mono (by decide)) hgd (a_cons (d_var 1) (a_nil))) (a_nil)))) (a_cons (d_call (ok_square_size T) (hr.mono (by decide)) hgd (a_cons (d_var 1) (a_nil))) (a_nil)))) (ss_cons (s_if ((d_wor (t_fne hr (f_mod (f_ix (d_var 2) (d_int)) (d_var 3)) (d_int)) (d_w1o (t_fne hr (f_mod (f_ix (d_var 2) (d_int)) (d_var 3)) (d_int)))).pt) (ss_one (s_ret (d_non))) (ss_nil)) (ss_one (s_ret (d_tup (a_cons (f_div (f_ix (d_var 2) (d_int)) (d_var 3)) (a_cons (f_div (f_ix (d_var 2) (d_int)) (d_var 3)) (a_nil)))))))
theorem ok_determinant (T : Tx K mg) : Ok P w K mg base 2 "determinant" ["chart"] sm_determinant := by
  refine ok_def (N := ["chart"]) T.d_determinant sc_determinant (fun _ _ _ _ _ _ us hl => match us, hl with | [_], _ => rfl) (fun _ _ _ _ _ _ us hl => match us, hl with | [_], _ => rfl) fun f cdv A fs s H E hr hgd => ?_
  have nd := sc_determinant.nd
  exact ss_one (s_ret (d_call (ok_minus T) (hr.mono (by decide)) hgd (a_cons (d_call (ok_times T) (hr.mono (by decide)) hgd (a_cons (f_ix (d_var 0) (d_int)) (a_cons (f_ix (d_var 0) (d_int)) (a_nil)))) (a_cons (d_call (ok_times T) (hr.mono (by decide)) hgd (a_cons (f_ix (d_var 0) (d_int)) (a_cons (f_ix (d_var 0) (d_int)) (a_nil)))) (a_nil)))))
theorem ok_form_of (T : Tx K mg) : Ok P w K mg base 4 "form_of" ["is_mirrored", "numbers"] sm_form_of := by
  refine ok_def (N := ["is_mirrored", "numbers", "common", "found", "number", "unit"]) T.d_form_of sc_form_of (fun _ _ _ _ _ _ us hl => match us, hl with | [_, _], _ => rfl) (fun _ _ _ _ _ _ us hl => match us, hl with | [_, _], _ => rfl) fun f cdv A fs s H E hr hgd => ?_
  have nd := sc_form_of.nd
  exact ss_cons (s_set 2 nd (d_call (ok_divisor_of_all T) (hr.mono (by decide)) hgd (a_cons (d_var 1) (a_nil)))) (ss_cons (s_setLc 3 [("number", 4)] rfl nd (g_seq (d_var 1)) (cg_name) (fun _ _ _ _ _ => pg_name (i := 4) nd rfl (by first | exact Or.inl rfl | exact Or.inr rfl)) (fun _ _ _ _ _ => ts_nil) (fun _ _ _ _ _ => d_call (ok_divided T) (hr.mono (by decide)) hgd (a_cons (d_var 4) (a_cons (d_var 2) (a_nil)))) (ok := blkOk_by (N := ["is_mirrored", "numbers", "common", "found", "number", "unit"]) (sc := defScope st_form_of) (by decide +kernel)) (sw_true rfl rfl rfl (by decide +kernel))) (ss_cons (s_set 5 nd (d_call (ok_unit_for T) (hr.mono (by decide)) hgd (a_cons (f_ix (d_lc [("number", 4)] rfl nd (g_seq (d_var 3)) (cg_name) (fun _ _ _ _ _ => pg_name (i := 4) nd rfl (by first | exact Or.inl rfl | exact Or.inr rfl)) (fun _ _ _ _ _ => ts_one (t_fne hr (d_var 4) (d_gc T.c_ZERO))) (fun _ _ _ _ _ => d_var 4) (ok := blkOk_by (N := ["is_mirrored", "numbers", "common", "found", "number", "unit"]) (sc := defScope st_form_of) (by decide +kernel))) (d_int)) (a_nil)))) (ss_one (s_ret (d_tup (a_cons (d_var 0) (a_star (d_lc [("number", 4)] rfl nd (g_seq (d_var 3)) (cg_name) (fun _ _ _ _ _ => pg_name (i := 4) nd rfl (by first | exact Or.inl rfl | exact Or.inr rfl)) (fun _ _ _ _ _ => ts_nil) (fun _ _ _ _ _ => d_call (ok_times T) (hr.mono (by decide)) hgd (a_cons (d_var 4) (a_cons (d_var 5) (a_nil)))) (ok := blkOk_by (N := ["is_mirrored", "numbers", "common", "found", "number", "unit"]) (sc := defScope st_form_of) (by decide +kernel))) (a_nil))))))))
theorem ok_is_flag (T : Tx K mg) : Ok P w K mg base 2 "is_flag" ["value"] sm_is_flag := by
  refine ok_def (N := ["value"]) T.d_is_flag sc_is_flag (fun _ _ _ _ _ _ us hl => match us, hl with | [_], _ => rfl) (fun _ _ _ _ _ _ us hl => match us, hl with | [_], _ => rfl) fun f cdv A fs s H E hr hgd => ?_
  have nd := sc_is_flag.nd
  exact ss_one (s_ret (d_andV (d_call (ok_is_whole T) (hr.mono (by decide)) hgd (a_cons (d_var 0) (a_nil))) (d_v1 (d_finS hr (d_var 0) (d_tup (a_cons (d_int) (a_cons (d_int) (a_nil))))))))
theorem ok_is_map (T : Tx K mg) : Ok P w K mg base 5 "is_map" ["value"] sm_is_map := by
  refine ok_def (N := ["value", "number"]) T.d_is_map sc_is_map (fun _ _ _ _ _ _ us hl => match us, hl with | [_], _ => rfl) (fun _ _ _ _ _ _ us hl => match us, hl with | [_], _ => rfl) fun f cdv A fs s H E hr hgd => ?_
  have nd := sc_is_map.nd
  exact ss_cons (s_if ((d_wor (d_tnot (d_tst (d_isi .tuple (d_var 0) T.z_isinstance T.z_tuple))) (d_wor (t_fne hr (g_len T.z_len (a_cons (d_var 0) (a_nil))) (d_int)) (d_w1o (d_tnot (d_tst (d_call (ok_is_flag T) (hr.mono (by decide)) hgd (a_cons (f_ix (d_var 0) (d_int)) (a_nil)))))))).pt) (ss_one (s_ret (d_bl))) (ss_nil)) (ss_cons (s_if ((d_wor (t_fne hr (d_lc [("number", 1)] rfl nd (g_seq (g_slice (d_var 0) (p_some (d_int)) p_none)) (cg_name) (fun _ _ _ _ _ => pg_name (i := 1) nd rfl (by first | exact Or.inl rfl | exact Or.inr rfl)) (fun _ _ _ _ _ => ts_one (d_tnot (d_tst (d_call (ok_is_complex T) (hr.mono (by decide)) hgd (a_cons (d_var 1) (a_nil)))))) (fun _ _ _ _ _ => d_var 1) (ok := blkOk_by (N := ["value", "number"]) (sc := defScope st_is_map) (by decide +kernel))) (d_lst (a_nil))) (d_w1o (t_feq hr (d_call (ok_determinant T) (hr.mono (by decide)) hgd (a_cons (d_var 0) (a_nil))) (d_gc T.c_ZERO)))).pt) (ss_one (s_ret (d_bl))) (ss_nil)) (ss_one (s_ret (d_feq hr (d_call (ok_form_of T) (hr.mono (by decide)) hgd (a_cons (f_ix (d_var 0) (d_int)) (a_cons (g_slice (d_var 0) (p_some (d_int)) p_none) (a_nil)))) (d_var 0)))))
theorem ok_map_of (T : Tx K mg) : OkX P w K mg base 5 "map_of" ["is_mirrored", "first", "second", "third", "fourth"] se_map_of := by
  obtain ⟨C_NoMap, x_NoMap⟩ := T.x_NoMap
  refine ok_defX (N := ["is_mirrored", "first", "second", "third", "fourth", "numbers", "number"]) T.d_map_of sc_map_of (fun _ _ _ _ _ _ us hl => match us, hl with | [_, _, _, _, _], _ => rfl) (fun _ _ _ _ _ _ us hl => match us, hl with | [_, _, _, _, _], _ => rfl) fun f cdv A fs s H E hr hgd c r W tk lk => ?_
  have nd := sc_map_of.nd
  exact ssx_cons (sx_of (s_if (d_tnot (d_tst (d_call (ok_is_flag T) (hr.mono (by decide)) hgd (a_cons (d_var 0) (a_nil))))) (ss_one (s_never)) (ss_nil))) (ssx_cons (sx_of (s_set 5 nd (d_tup (a_cons (d_var 1) (a_cons (d_var 2) (a_cons (d_var 3) (a_cons (d_var 4) (a_nil)))))))) (ssx_cons (sx_of (s_forI (L2.passes_of rfl) rfl (g_seq (d_var 5)) (g_name 6 nd) (ss_one (s_expr (d_call (ok_check_complex T) (hr.mono (by decide)) hgd (a_cons (d_var 6) (a_nil))))))) (ssx_cons (sx_if (t_feq hr (d_call (ok_determinant T) (hr.mono (by decide)) hgd (a_cons (d_tup (a_cons (d_var 0) (a_star (d_var 5) (a_nil)))) (a_nil))) (d_gc T.c_ZERO)) (ssx_one (sx_raise0 x_NoMap rfl tk lk)) (ssx_of (ss_nil))) (ssx_one (sx_of (s_ret (d_call (ok_form_of T) (hr.mono (by decide)) hgd (a_cons (d_var 0) (a_cons (d_var 5) (a_nil))))))))))
theorem ok__law_tank (T : Tx K mg) : OkO P w K mg base 1 "_law_tank" ["_law_script", "_law_spot"] sm__law_tank := by
  refine ok_defO (N := ["_law_script", "_law_spot", "_law_stir", "_law_cell", "_law_own", "_law_rest"]) T.d__law_tank sc__law_tank (fun _ _ _ _ _ _ us hl => match us, hl with | [_, _], _ => rfl) fun f cdv A fs s H E hr hgd => ?_
  have nd := sc__law_tank.nd
  exact so_cons (s_set 2 nd (f_add (d_int) (f_mul (d_int) (d_var 1)))) (so_cons (s_forI PassesOwn.never rfl (g_seq (g_slice (d_var 0) p_none (p_some (d_int)))) (g_name 3 nd) (ss_one (s_set 2 nd (f_mod (g_toint T.z_int (a_cons (f_add (f_add (f_mul (d_var 2) (d_int)) (f_mod (g_toint T.z_int (a_cons (d_var 3) (a_nil))) (d_int))) (d_int)) (a_nil))) (d_int))))) (so_cons (s_set 4 nd (d_if (t_flt (d_var 1) (g_len T.z_len (a_cons (d_var 0) (a_nil)))) (g_toint T.z_int (a_cons (f_ix (d_var 0) (d_var 1)) (a_nil))) (d_var 2))) (so_cons (s_set 5 nd (d_if ((d_wor (t_flt (d_var 4) (d_int)) (d_w1o (t_fge (d_var 4) (f_pow (d_int) (d_int))))).pt) (g_abs T.z_abs (a_cons (d_var 4) (a_nil))) (d_int))) (so_ret (a_cons (d_var 5) (a_cons (f_mod (g_toint T.z_int (a_cons (f_add (f_add (f_mul (d_var 2) (d_int)) (f_mul (f_mod (g_toint T.z_int (a_cons (d_var 4) (a_nil))) (d_int)) (d_int))) (d_int)) (a_nil))) (d_int)) (a_cons (d_int) (a_nil))))))))
theorem ok__law_draw (T : Tx K mg) : Ok P w K mg base 1 "_law_draw" ["_law_tank_here", "_law_many"] sm__law_draw := by
  refine ok_def (N := ["_law_tank_here", "_law_many", "_law_figure", "_law_pace"]) T.d__law_draw sc__law_draw (fun _ _ _ _ _ _ us hl => match us, hl with | [_, _], _ => rfl) (fun _ _ _ _ _ _ us hl => match us, hl with | [_, _], _ => rfl) fun f cdv A fs s H E hr hgd => ?_
  have nd := sc__law_draw.nd
  exact ss_cons (s_if (t_fgt (d_tix 0 (d_int)) (d_int)) (ss_cons (s_asg (g_divmod T.z_divmod (a_cons (d_tix 0 (d_int)) (a_cons (d_var 1) (a_nil)))) (g_unp rfl (gs_cons (g_tset 0 (d_int)) (gs_cons (g_name 2 nd) (gs_nil))))) (ss_one (s_ret (d_var 2)))) (ss_nil)) (ss_cons (s_asg (f_add (d_tix 0 (d_int)) (d_int)) (g_tset 0 (d_int))) (ss_cons (s_set 3 nd (f_add (f_mod (g_toint T.z_int (a_cons (d_tix 0 (d_int)) (a_nil))) (d_int)) (d_int))) (ss_cons (s_asg (f_mod (g_toint T.z_int (a_cons (f_add (f_add (f_mul (d_tix 0 (d_int)) (d_var 3)) (f_mul (d_int) (d_tix 0 (d_int)))) (d_int)) (a_nil))) (d_int)) (g_tset 0 (d_int))) (ss_one (s_ret (f_mod (g_toint T.z_int (a_cons (f_div (d_tix 0 (d_int)) (d_int)) (a_nil))) (d_var 1)))))))
theorem ok__law_pick (T : Tx K mg) : Ok P w K mg base 2 "_law_pick" ["_law_tank_here", "_law_some"] sm__law_pick := by
  refine ok_def (N := ["_law_tank_here", "_law_some"]) T.d__law_pick sc__law_pick (fun _ _ _ _ _ _ us hl => match us, hl with | [_, _], _ => rfl) (fun _ _ _ _ _ _ us hl => match us, hl with | [_, _], _ => rfl) fun f cdv A fs s H E hr hgd => ?_
  have nd := sc__law_pick.nd
  exact ss_one (s_ret (f_ix (d_var 1) (d_call (ok__law_draw T) (hr.mono (by decide)) hgd (a_tank 0 (a_cons (g_len T.z_len (a_cons (d_var 1) (a_nil))) (a_nil))))))
theorem ok__law_rounds (T : Tx K mg) : Ok P w K mg base 1 "_law_rounds" ["_law_script"] sm__law_rounds := by
  refine ok_def (N := ["_law_script"]) T.d__law_rounds sc__law_rounds (fun _ _ _ _ _ _ us hl => match us, hl with | [_], _ => rfl) (fun _ _ _ _ _ _ us hl => match us, hl with | [_], _ => rfl) fun f cdv A fs s H E hr hgd => ?_
  have nd := sc__law_rounds.nd
  exact ss_one (s_ret (g_max2 rfl T.z_max (a_cons (d_int) (a_cons (g_min2 rfl T.z_min (a_cons (g_len T.z_len (a_cons (d_var 0) (a_nil))) (a_cons (d_int) (a_nil)))) (a_nil)))))
theorem ok__law_number (T : Tx K mg) : Ok P w K mg base 3 "_law_number" ["_law_tank_here"] sm__law_number := by
  refine ok_def (N := ["_law_tank_here", "_law_size_here"]) T.d__law_number sc__law_number (fun _ _ _ _ _ _ us hl => match us, hl with | [_], _ => rfl) (fun _ _ _ _ _ _ us hl => match us, hl with | [_], _ => rfl) fun f cdv A fs s H E hr hgd => ?_
  have nd := sc__law_number.nd
  exact ss_cons (s_set 1 nd (d_call (ok__law_pick T) (hr.mono (by decide)) hgd (a_tank 0 (a_cons (d_tup (a_cons (d_int) (a_cons (d_int) (a_cons (d_int) (a_cons (d_int) (a_cons (d_int) (a_cons (d_int) (a_cons (d_int) (a_nil))))))))) (a_nil))))) (ss_cons (s_if (t_fgt (d_var 1) (d_int)) (ss_one (s_ret (f_sub (d_call (ok__law_draw T) (hr.mono (by decide)) hgd (a_tank 0 (a_cons (f_add (f_mul (d_int) (d_var 1)) (d_int)) (a_nil)))) (d_var 1)))) (ss_nil)) (ss_one (s_ret (f_mul (f_add (f_mul (d_call (ok__law_draw T) (hr.mono (by decide)) hgd (a_tank 0 (a_cons (d_int) (a_nil)))) (d_int)) (d_call (ok__law_draw T) (hr.mono (by decide)) hgd (a_tank 0 (a_cons (d_int) (a_nil))))) (f_sub (d_int) (f_mul (d_int) (d_call (ok__law_draw T) (hr.mono (by decide)) hgd (a_tank 0 (a_cons (d_int) (a_nil))))))))))
theorem ok__law_small (T : Tx K mg) : Ok P w K mg base 3 "_law_small" ["_law_tank_here"] sm__law_small := by
  refine ok_def (N := ["_law_tank_here", "_law_size_here"]) T.d__law_small sc__law_small (fun _ _ _ _ _ _ us hl => match us, hl with | [_], _ => rfl) (fun _ _ _ _ _ _ us hl => match us, hl with | [_], _ => rfl) fun f cdv A fs s H E hr hgd => ?_
  have nd := sc__law_small.nd
  exact ss_cons (s_set 1 nd (d_call (ok__law_pick T) (hr.mono (by decide)) hgd (a_tank 0 (a_cons (d_tup (a_cons (d_int) (a_cons (d_int) (a_cons (d_int) (a_cons (d_int) (a_cons (d_int) (a_nil))))))) (a_nil))))) (ss_one (s_ret (f_sub (d_call (ok__law_draw T) (hr.mono (by decide)) hgd (a_tank 0 (a_cons (f_add (f_mul (d_int) (d_var 1)) (d_int)) (a_nil)))) (d_var 1))))
theorem ok__law_less (T : Tx K mg) : Ok P w K mg base 1 "_law_less" ["_law_one", "_law_two"] sm__law_less := by
  refine ok_def (N := ["_law_one", "_law_two"]) T.d__law_less sc__law_less (fun _ _ _ _ _ _ us hl => match us, hl with | [_, _], _ => rfl) (fun _ _ _ _ _ _ us hl => match us, hl with | [_, _], _ => rfl) fun f cdv A fs s H E hr hgd => ?_
  have nd := sc__law_less.nd
  exact ss_one (s_ret (d_tup (a_cons (f_sub (f_ix (d_var 0) (d_int)) (f_ix (d_var 1) (d_int))) (a_cons (f_sub (f_ix (d_var 0) (d_int)) (f_ix (d_var 1) (d_int))) (a_nil)))))
theorem ok__law_times (T : Tx K mg) : Ok P w K mg base 1 "_law_times" ["_law_one", "_law_two"] sm__law_times := by
  refine ok_def (N := ["_law_one", "_law_two"]) T.d__law_times sc__law_times (fun _ _ _ _ _ _ us hl => match us, hl with | [_, _], _ => rfl) (fun _ _ _ _ _ _ us hl => match us, hl with | [_, _], _ => rfl) fun f cdv A fs s H E hr hgd => ?_
  have nd := sc__law_times.nd
  exact ss_one (s_ret (d_tup (a_cons (f_sub (f_mul (f_ix (d_var 0) (d_int)) (f_ix (d_var 1) (d_int))) (f_mul (f_ix (d_var 0) (d_int)) (f_ix (d_var 1) (d_int)))) (a_cons (f_add (f_mul (f_ix (d_var 0) (d_int)) (f_ix (d_var 1) (d_int))) (f_mul (f_ix (d_var 0) (d_int)) (f_ix (d_var 1) (d_int)))) (a_nil)))))
theorem ok__law_star (T : Tx K mg) : Ok P w K mg base 1 "_law_star" ["_law_one"] sm__law_star := by
  refine ok_def (N := ["_law_one"]) T.d__law_star sc__law_star (fun _ _ _ _ _ _ us hl => match us, hl with | [_], _ => rfl) (fun _ _ _ _ _ _ us hl => match us, hl with | [_], _ => rfl) fun f cdv A fs s H E hr hgd => ?_
  have nd := sc__law_star.nd
  exact ss_one (s_ret (d_tup (a_cons (f_ix (d_var 0) (d_int)) (a_cons (f_sub (d_int) (f_ix (d_var 0) (d_int))) (a_nil)))))
theorem ok__law_size (T : Tx K mg) : Ok P w K mg base 1 "_law_size" ["_law_one"] sm__law_size := by
  refine ok_def (N := ["_law_one"]) T.d__law_size sc__law_size (fun _ _ _ _ _ _ us hl => match us, hl with | [_], _ => rfl) (fun _ _ _ _ _ _ us hl => match us, hl with | [_], _ => rfl) fun f cdv A fs s H E hr hgd => ?_
  have nd := sc__law_size.nd
  exact ss_one (s_ret (f_add (f_mul (f_ix (d_var 0) (d_int)) (f_ix (d_var 0) (d_int))) (f_mul (f_ix (d_var 0) (d_int)) (f_ix (d_var 0) (d_int)))))
theorem ok__law_quarter (T : Tx K mg) : Ok P w K mg base 1 "_law_quarter" ["_law_one"] sm__law_quarter := by
  refine ok_def (N := ["_law_one", "_law_a", "_law_b", "_law_turn"]) T.d__law_quarter sc__law_quarter (fun _ _ _ _ _ _ us hl => match us, hl with | [_], _ => rfl) (fun _ _ _ _ _ _ us hl => match us, hl with | [_], _ => rfl) fun f cdv A fs s H E hr hgd => ?_
  have nd := sc__law_quarter.nd
  exact ss_cons (s_asg (d_var 0) (g_unp rfl (gs_cons (g_name 1 nd) (gs_cons (g_name 2 nd) (gs_nil))))) (ss_cons (s_forI PassesOwn.never rfl (i_range1 T.z_range (a_cons (d_int) (a_nil))) (g_name 3 nd) (ss_cons (s_if ((d_wand (t_fgt (d_var 1) (d_int)) (d_w1a (t_fge (d_var 2) (d_int)))).pt) (ss_one (s_ret (d_tup (a_cons (d_var 1) (a_cons (d_var 2) (a_nil)))))) (ss_nil)) (ss_one (s_par 1 2 rfl nd (a_cons (f_sub (d_int) (d_var 2)) (a_cons (d_var 1) (a_nil))))))) (ss_one (s_ret (d_tup (a_cons (d_int) (a_cons (d_int) (a_nil)))))))
theorem ok__law_over (T : Tx K mg) : Ok P w K mg base 2 "_law_over" ["_law_one", "_law_two"] sm__law_over := by
  refine ok_def (N := ["_law_one", "_law_two", "_law_size_here", "_law_a", "_law_b"]) T.d__law_over sc__law_over (fun _ _ _ _ _ _ us hl => match us, hl with | [_, _], _ => rfl) (fun _ _ _ _ _ _ us hl => match us, hl with | [_, _], _ => rfl) fun f cdv A fs s H E hr hgd => ?_
  have nd := sc__law_over.nd
  exact ss_cons (s_set 2 nd (d_call (ok__law_size T) (hr.mono (by decide)) hgd (a_cons (d_var 1) (a_nil)))) (ss_cons (s_if (t_feq hr (d_var 2) (d_int)) (ss_one (s_ret (d_non))) (ss_nil)) (ss_cons (s_asg (d_call (ok__law_times T) (hr.mono (by decide)) hgd (a_cons (d_var 0) (a_cons (d_call (ok__law_star T) (hr.mono (by decide)) hgd (a_cons (d_var 1) (a_nil))) (a_nil)))) (g_unp rfl (gs_cons (g_name 3 nd) (gs_cons (g_name 4 nd) (gs_nil))))) (ss_one (s_ret (d_if ((d_wand (t_feq hr (f_mod (g_toint T.z_int (a_cons (d_var 3) (a_nil))) (d_var 2)) (d_int)) (d_w1a (t_feq hr (f_mod (g_toint T.z_int (a_cons (d_var 4) (a_nil))) (d_var 2)) (d_int)))).pt) (d_tup (a_cons (f_div (d_var 3) (d_var 2)) (a_cons (f_div (d_var 4) (d_var 2)) (a_nil)))) (d_non))))))
theorem ok__law_common (T : Tx K mg) : Ok P w K mg base 2 "_law_common" ["_law_numbers"] sm__law_common := by
  refine ok_def (N := ["_law_numbers", "_law_found", "_law_number_here", "_law_one", "_law_two", "_law_turn", "_law_size_here", "_law_a", "_law_b", "_law_near"]) T.d__law_common sc__law_common (fun _ _ _ _ _ _ us hl => match us, hl with | [_], _ => rfl) (fun _ _ _ _ _ _ us hl => match us, hl with | [_], _ => rfl) fun f cdv A fs s H E hr hgd => ?_
  have nd := sc__law_common.nd
  exact ss_cons (s_set 1 nd (d_tup (a_cons (d_int) (a_cons (d_int) (a_nil))))) (ss_cons (s_forI PassesOwn.never rfl (g_seq (d_var 0)) (g_name 2 nd) (ss_cons (s_par 3 4 rfl nd (a_cons (d_var 1) (a_cons (d_var 2) (a_nil)))) (ss_cons (s_forI PassesOwn.never rfl (i_range1 T.z_range (a_cons (d_int) (a_nil))) (g_name 5 nd) (ss_cons (s_set 6 nd (d_call (ok__law_size T) (hr.mono (by decide)) hgd (a_cons (d_var 4) (a_nil)))) (ss_cons (s_if (t_feq hr (d_var 6) (d_int)) (ss_one (s_break)) (ss_nil)) (ss_cons (s_asg (d_call (ok__law_times T) (hr.mono (by decide)) hgd (a_cons (d_var 3) (a_cons (d_call (ok__law_star T) (hr.mono (by decide)) hgd (a_cons (d_var 4) (a_nil))) (a_nil)))) (g_unp rfl (gs_cons (g_name 7 nd) (gs_cons (g_name 8 nd) (gs_nil))))) (ss_cons (s_set 9 nd (d_tup (a_cons (f_div (f_add (f_mul (d_int) (d_var 7)) (d_var 6)) (f_mul (d_int) (d_var 6))) (a_cons (f_div (f_add (f_mul (d_int) (d_var 8)) (d_var 6)) (f_mul (d_int) (d_var 6))) (a_nil))))) (ss_one (s_par 3 4 rfl nd (a_cons (d_var 4) (a_cons (d_call (ok__law_less T) (hr.mono (by decide)) hgd (a_cons (d_var 3) (a_cons (d_call (ok__law_times T) (hr.mono (by decide)) hgd (a_cons (d_var 9) (a_cons (d_var 4) (a_nil)))) (a_nil)))) (a_nil)))))))))) (ss_one (s_set 1 nd (d_var 3)))))) (ss_one (s_ret (d_var 1))))
theorem ok__law_is_whole (T : Tx K mg) : Ok P w K mg base 1 "_law_is_whole" ["_law_thing", "_law_many"] sm__law_is_whole := by
  refine ok_def (N := ["_law_thing", "_law_many", "_law_each"]) T.d__law_is_whole sc__law_is_whole (fun _ _ _ _ _ _ us hl => match us, hl with | [_, _], _ => rfl) (fun _ _ _ _ _ _ us hl => match us, hl with | [_, _], _ => rfl) fun f cdv A fs s H E hr hgd => ?_
  have nd := sc__law_is_whole.nd
  exact ss_cons (s_if ((d_wor (d_tnot (d_tst (d_isi .tuple (d_var 0) T.z_isinstance T.z_tuple))) (d_w1o (t_fne hr (g_len T.z_len (a_cons (d_var 0) (a_nil))) (d_var 1)))).pt) (ss_one (s_ret (d_bl))) (ss_nil)) (ss_one (s_ret (d_feq hr (d_lc [("_law_each", 2)] rfl nd (g_seq (d_var 0)) (cg_name) (fun _ _ _ _ _ => pg_name (i := 2) nd rfl (by first | exact Or.inl rfl | exact Or.inr rfl)) (fun _ _ _ _ _ => ts_one ((d_wor (d_tnot (d_tst (d_isi .int (d_var 2) T.z_isinstance T.z_int))) (d_w1o (d_tst (d_isi .bool (d_var 2) T.z_isinstance T.z_bool)))).pt)) (fun _ _ _ _ _ => d_var 2) (ok := blkOk_by (N := ["_law_thing", "_law_many", "_law_each"]) (sc := defScope st__law_is_whole) (by decide +kernel))) (d_lst (a_nil)))))
theorem ok__law_complex (T : Tx K mg) : Ok P w K mg base 4 "_law_complex" ["_law_tank_here"] sm__law_complex := by
  refine ok_def (N := ["_law_tank_here"]) T.d__law_complex sc__law_complex (fun _ _ _ _ _ _ us hl => match us, hl with | [_], _ => rfl) (fun _ _ _ _ _ _ us hl => match us, hl with | [_], _ => rfl) fun f cdv A fs s H E hr hgd => ?_
  have nd := sc__law_complex.nd
  exact ss_one (s_ret (d_tup (a_cons (d_call (ok__law_number T) (hr.mono (by decide)) hgd (a_tank 0 (a_nil))) (a_cons (d_call (ok__law_number T) (hr.mono (by decide)) hgd (a_tank 0 (a_nil))) (a_nil)))))
theorem ok__law_little (T : Tx K mg) : Ok P w K mg base 4 "_law_little" ["_law_tank_here"] sm__law_little := by
  refine ok_def (N := ["_law_tank_here"]) T.d__law_little sc__law_little (fun _ _ _ _ _ _ us hl => match us, hl with | [_], _ => rfl) (fun _ _ _ _ _ _ us hl => match us, hl with | [_], _ => rfl) fun f cdv A fs s H E hr hgd => ?_
  have nd := sc__law_little.nd
  exact ss_one (s_ret (d_tup (a_cons (d_call (ok__law_small T) (hr.mono (by decide)) hgd (a_tank 0 (a_nil))) (a_cons (d_call (ok__law_small T) (hr.mono (by decide)) hgd (a_tank 0 (a_nil))) (a_nil)))))
theorem ok__law_map (T : Tx K mg) : Ok P w K mg base 3 "_law_map" ["_law_flag", "_law_numbers"] sm__law_map := by
  refine ok_def (N := ["_law_flag", "_law_numbers", "_law_part", "_law_rest", "_law_each", "_law_first", "_law_unit"]) T.d__law_map sc__law_map (fun _ _ _ _ _ _ us hl => match us, hl with | [_, _], _ => rfl) (fun _ _ _ _ _ _ us hl => match us, hl with | [_, _], _ => rfl) fun f cdv A fs s H E hr hgd => ?_
  have nd := sc__law_map.nd
  exact ss_cons (s_set 2 nd (d_call (ok__law_common T) (hr.mono (by decide)) hgd (a_cons (d_var 1) (a_nil)))) (ss_cons (s_setLc 3 [("_law_each", 4)] rfl nd (g_seq (d_var 1)) (cg_name) (fun _ _ _ _ _ => pg_name (i := 4) nd rfl (by first | exact Or.inl rfl | exact Or.inr rfl)) (fun _ _ _ _ _ => ts_nil) (fun _ _ _ _ _ => d_call (ok__law_over T) (hr.mono (by decide)) hgd (a_cons (d_var 4) (a_cons (d_var 2) (a_nil)))) (ok := blkOk_by (N := ["_law_flag", "_law_numbers", "_law_part", "_law_rest", "_law_each", "_law_first", "_law_unit"]) (sc := defScope st__law_map) (by decide +kernel)) (sw_true rfl rfl rfl (by decide +kernel))) (ss_cons (s_set 5 nd (f_ix (d_lc [("_law_each", 4)] rfl nd (g_seq (d_var 3)) (cg_name) (fun _ _ _ _ _ => pg_name (i := 4) nd rfl (by first | exact Or.inl rfl | exact Or.inr rfl)) (fun _ _ _ _ _ => ts_one (t_fne hr (d_var 4) (d_tup (a_cons (d_int) (a_cons (d_int) (a_nil)))))) (fun _ _ _ _ _ => d_var 4) (ok := blkOk_by (N := ["_law_flag", "_law_numbers", "_law_part", "_law_rest", "_law_each", "_law_first", "_law_unit"]) (sc := defScope st__law_map) (by decide +kernel))) (d_int))) (ss_cons (s_set 6 nd (d_call (ok__law_over T) (hr.mono (by decide)) hgd (a_cons (d_call (ok__law_quarter T) (hr.mono (by decide)) hgd (a_cons (d_var 5) (a_nil))) (a_cons (d_var 5) (a_nil))))) (ss_cons (s_setLc 3 [("_law_each", 4)] rfl nd (g_seq (d_var 3)) (cg_name) (fun _ _ _ _ _ => pg_name (i := 4) nd rfl (by first | exact Or.inl rfl | exact Or.inr rfl)) (fun _ _ _ _ _ => ts_nil) (fun _ _ _ _ _ => d_call (ok__law_times T) (hr.mono (by decide)) hgd (a_cons (d_var 4) (a_cons (d_var 6) (a_nil)))) (ok := blkOk_by (N := ["_law_flag", "_law_numbers", "_law_part", "_law_rest", "_law_each", "_law_first", "_law_unit"]) (sc := defScope st__law_map) (by decide +kernel)) (sw_true rfl rfl rfl (by decide +kernel))) (ss_one (s_ret (d_tup (a_cons (d_var 0) (a_cons (f_ix (d_var 3) (d_int)) (a_cons (f_ix (d_var 3) (d_int)) (a_cons (f_ix (d_var 3) (d_int)) (a_cons (f_ix (d_var 3) (d_int)) (a_nil)))))))))))))
theorem ok__law_det (T : Tx K mg) : Ok P w K mg base 2 "_law_det" ["_law_numbers"] sm__law_det := by
  refine ok_def (N := ["_law_numbers"]) T.d__law_det sc__law_det (fun _ _ _ _ _ _ us hl => match us, hl with | [_], _ => rfl) (fun _ _ _ _ _ _ us hl => match us, hl with | [_], _ => rfl) fun f cdv A fs s H E hr hgd => ?_
  have nd := sc__law_det.nd
  exact ss_one (s_ret (d_call (ok__law_less T) (hr.mono (by decide)) hgd (a_cons (d_call (ok__law_times T) (hr.mono (by decide)) hgd (a_cons (f_ix (d_var 0) (d_int)) (a_cons (f_ix (d_var 0) (d_int)) (a_nil)))) (a_cons (d_call (ok__law_times T) (hr.mono (by decide)) hgd (a_cons (f_ix (d_var 0) (d_int)) (a_cons (f_ix (d_var 0) (d_int)) (a_nil)))) (a_nil)))))
theorem ok__law_four (T : Tx K mg) : Ok P w K mg base 5 "_law_four" ["_law_tank_here"] sm__law_four := by
  refine ok_def (N := ["_law_tank_here", "_law_way", "_law_turn", "_law_found"]) T.d__law_four sc__law_four (fun _ _ _ _ _ _ us hl => match us, hl with | [_], _ => rfl) (fun _ _ _ _ _ _ us hl => match us, hl with | [_], _ => rfl) fun f cdv A fs s H E hr hgd => ?_
  have nd := sc__law_four.nd
  exact ss_cons (s_set 1 nd (d_call (ok__law_draw T) (hr.mono (by decide)) hgd (a_tank 0 (a_cons (d_int) (a_nil))))) (ss_cons (s_forI PassesOwn.never rfl (i_range1 T.z_range (a_cons (d_int) (a_nil))) (g_name 2 nd) (ss_cons (s_own 3 nd (a_cons (d_call (ok__law_little T) (hr.mono (by decide)) hgd (a_tank 0 (a_nil))) (a_cons (d_call (ok__law_little T) (hr.mono (by decide)) hgd (a_tank 0 (a_nil))) (a_cons (d_call (ok__law_little T) (hr.mono (by decide)) hgd (a_tank 0 (a_nil))) (a_cons (d_call (ok__law_little T) (hr.mono (by decide)) hgd (a_tank 0 (a_nil))) (a_nil)))))) (ss_cons (s_if (t_feq hr (d_var 1) (d_int)) (ss_one (s_asg (d_tup (a_cons (d_tup (a_cons (d_int) (a_cons (d_int) (a_nil)))) (a_cons (d_tup (a_cons (d_int) (a_cons (d_int) (a_nil)))) (a_cons (d_tup (a_cons (d_int) (a_cons (d_int) (a_nil)))) (a_nil))))) (g_unp rfl (gs_cons (g_oset 3 (d_int)) (gs_cons (g_oset 3 (d_int)) (gs_cons (g_oset 3 (d_int)) (gs_nil))))))) (ss_nil)) (ss_cons (s_if (t_feq hr (d_var 1) (d_int)) (ss_one (s_asg (d_tup (a_cons (d_tup (a_cons (d_int) (a_cons (d_int) (a_nil)))) (a_cons (d_tup (a_cons (d_int) (a_cons (d_int) (a_nil)))) (a_nil)))) (g_unp rfl (gs_cons (g_oset 3 (d_int)) (gs_cons (g_oset 3 (d_int)) (gs_nil)))))) (ss_nil)) (ss_cons (s_if (t_feq hr (d_var 1) (d_int)) (ss_one (s_asg (d_tup (a_cons (d_tup (a_cons (d_int) (a_cons (d_int) (a_nil)))) (a_cons (d_tup (a_cons (d_int) (a_cons (d_int) (a_nil)))) (a_nil)))) (g_unp rfl (gs_cons (g_oset 3 (d_int)) (gs_cons (g_oset 3 (d_int)) (gs_nil)))))) (ss_nil)) (ss_one (s_if (t_view 3 (t_fne hr (d_call (ok__law_det T) (hr.mono (by decide)) hgd (a_cons (d_var 3) (a_nil))) (d_tup (a_cons (d_int) (a_cons (d_int) (a_nil)))))) (ss_one (s_frq 3 (s_ret (d_var 3)))) (ss_nil)))))))) (ss_one (s_ret (d_lst (a_cons (d_tup (a_cons (d_int) (a_cons (d_int) (a_nil)))) (a_cons (d_tup (a_cons (d_int) (a_cons (d_int) (a_nil)))) (a_cons (d_tup (a_cons (d_int) (a_cons (d_int) (a_nil)))) (a_cons (d_tup (a_cons (d_int) (a_cons (d_int) (a_nil)))) (a_nil)))))))))
theorem ok__law_is_map (T : Tx K mg) : Ok P w K mg base 4 "_law_is_map" ["_law_thing"] sm__law_is_map := by
  refine ok_def (N := ["_law_thing", "_law_each"]) T.d__law_is_map sc__law_is_map (fun _ _ _ _ _ _ us hl => match us, hl with | [_], _ => rfl) (fun _ _ _ _ _ _ us hl => match us, hl with | [_], _ => rfl) fun f cdv A fs s H E hr hgd => ?_
  have nd := sc__law_is_map.nd
  exact ss_cons (s_if ((d_wor (d_tnot (d_tst (d_isi .tuple (d_var 0) T.z_isinstance T.z_tuple))) (d_wor (t_fne hr (g_len T.z_len (a_cons (d_var 0) (a_nil))) (d_int)) (d_wor (d_tnot (d_tst (d_call (ok__law_is_whole T) (hr.mono (by decide)) hgd (a_cons (g_slice (d_var 0) p_none (p_some (d_int))) (a_cons (d_int) (a_nil)))))) (d_w1o (t_fniS hr (f_ix (d_var 0) (d_int)) (d_tup (a_cons (d_int) (a_cons (d_int) (a_nil))))))))).pt) (ss_one (s_ret (d_bl))) (ss_nil)) (ss_cons (s_forI PassesOwn.never rfl (g_seq (g_slice (d_var 0) (p_some (d_int)) p_none)) (g_name 1 nd) (ss_one (s_if (d_tnot (d_tst (d_call (ok__law_is_whole T) (hr.mono (by decide)) hgd (a_cons (d_var 1) (a_cons (d_int) (a_nil)))))) (ss_one (s_ret (d_bl))) (ss_nil)))) (ss_cons (s_if (t_feq hr (d_call (ok__law_det T) (hr.mono (by decide)) hgd (a_cons (g_slice (d_var 0) (p_some (d_int)) p_none) (a_nil))) (d_tup (a_cons (d_int) (a_cons (d_int) (a_nil))))) (ss_one (s_ret (d_bl))) (ss_nil)) (ss_one (s_ret (d_feq hr (d_call (ok__law_map T) (hr.mono (by decide)) hgd (a_cons (f_ix (d_var 0) (d_int)) (a_cons (g_slice (d_var 0) (p_some (d_int)) p_none) (a_nil)))) (d_var 0))))))
theorem ok__law_is_along (T : Tx K mg) : Ok P w K mg base 2 "_law_is_along" ["_law_told", "_law_numbers"] sm__law_is_along := by
  refine ok_def (N := ["_law_told", "_law_numbers", "_law_j", "_law_i"]) T.d__law_is_along sc__law_is_along (fun _ _ _ _ _ _ us hl => match us, hl with | [_, _], _ => rfl) (fun _ _ _ _ _ _ us hl => match us, hl with | [_, _], _ => rfl) fun f cdv A fs s H E hr hgd => ?_
  have nd := sc__law_is_along.nd
  exact ss_cons (s_forI PassesOwn.never rfl (i_range1 T.z_range (a_cons (d_int) (a_nil))) (g_name 2 nd) (ss_one (s_forI PassesOwn.never rfl (i_range1 T.z_range (a_cons (d_var 2) (a_nil))) (g_name 3 nd) (ss_one (s_if (t_fne hr (d_call (ok__law_times T) (hr.mono (by decide)) hgd (a_cons (f_ix (d_var 0) (f_add (d_int) (d_var 3))) (a_cons (f_ix (d_var 1) (d_var 2)) (a_nil)))) (d_call (ok__law_times T) (hr.mono (by decide)) hgd (a_cons (f_ix (d_var 0) (f_add (d_int) (d_var 2))) (a_cons (f_ix (d_var 1) (d_var 3)) (a_nil))))) (ss_one (s_ret (d_bl))) (ss_nil)))))) (ss_one (s_ret (d_bl)))
theorem ok__law_form_right (T : Tx K mg) : Ok P w K mg base 6 "_law_form_right" ["_law_flag", "_law_numbers", "_law_times_here"] sm__law_form_right := by
  refine ok_def (N := ["_law_flag", "_law_numbers", "_law_times_here", "_law_a", "_law_b", "_law_c", "_law_d", "_law_told", "_law_each", "_law_longer"]) T.d__law_form_right sc__law_form_right (fun _ _ _ _ _ _ us hl => match us, hl with | [_, _, _], _ => rfl) (fun _ _ _ _ _ _ us hl => match us, hl with | [_, _, _], _ => rfl) fun f cdv A fs s H E hr hgd => ?_
  have nd := sc__law_form_right.nd
  exact ss_cons (s_asg (d_var 1) (g_unp rfl (gs_cons (g_name 3 nd) (gs_cons (g_name 4 nd) (gs_cons (g_name 5 nd) (gs_cons (g_name 6 nd) (gs_nil))))))) (ss_cons (s_set 7 nd (d_callN (ok_map_of T) (hr.mono (by decide)) hgd (a_cons (d_var 0) (a_cons (d_var 3) (a_cons (d_var 4) (a_cons (d_var 5) (a_cons (d_var 6) (a_nil)))))))) (ss_cons (s_if ((d_wor (d_tnot (d_tst (d_call (ok__law_is_map T) (hr.mono (by decide)) hgd (a_cons (d_var 7) (a_nil))))) (d_wor (t_fne hr (f_ix (d_var 7) (d_int)) (d_var 0)) (d_wor (d_tnot (d_tst (d_call (ok__law_is_along T) (hr.mono (by decide)) hgd (a_cons (d_var 7) (a_cons (d_var 1) (a_nil)))))) (d_w1o (t_fisn (by rfl) (d_call (ok_is_map T) (hr.mono (by decide)) hgd (a_cons (d_var 7) (a_nil))) (d_bl)))))).pt) (ss_one (s_ret (d_bl))) (ss_nil)) (ss_cons (s_asg (d_lc [("_law_each", 8)] rfl nd (g_seq (d_var 1)) (cg_name) (fun _ _ _ _ _ => pg_name (i := 8) nd rfl (by first | exact Or.inl rfl | exact Or.inr rfl)) (fun _ _ _ _ _ => ts_nil) (fun _ _ _ _ _ => d_call (ok__law_times T) (hr.mono (by decide)) hgd (a_cons (d_var 8) (a_cons (d_var 2) (a_nil)))) (ok := blkOk_by (N := ["_law_flag", "_law_numbers", "_law_times_here", "_law_a", "_law_b", "_law_c", "_law_d", "_law_told", "_law_each", "_law_longer"]) (sc := defScope st__law_form_right) (by decide +kernel))) (g_unp rfl (gs_cons (g_name 3 nd) (gs_cons (g_name 4 nd) (gs_cons (g_name 5 nd) (gs_cons (g_name 6 nd) (gs_nil))))))) (ss_cons (s_set 9 nd (d_callKN (ok_map_of T) (hr.mono (by decide)) hgd (k_cons (d_var 0) (k_cons (d_var 3) (k_cons (d_var 4) (k_cons (d_var 5) (k_cons (d_var 6) (k_nil)))))))) (ss_one (s_ret (d_feq hr (g_repr hgd (room66 hr) T.z_repr (a_cons (d_lst (a_cons (d_var 9) (a_cons (d_callN (ok_map_of T) (hr.mono (by decide)) hgd (a_cons (d_var 0) (a_cons (f_ix (d_var 7) (d_int)) (a_cons (f_ix (d_var 7) (d_int)) (a_cons (f_ix (d_var 7) (d_int)) (a_cons (f_ix (d_var 7) (d_int)) (a_nil))))))) (a_nil)))) (a_nil))) (g_repr hgd (room66 hr) T.z_repr (a_cons (d_lst (a_cons (d_var 7) (a_cons (d_var 7) (a_nil)))) (a_nil))))))))))
theorem ok__law_is_refused (T : Tx K mg) : Ok P w K mg base 6 "_law_is_refused" ["_law_flag", "_law_numbers"] sm__law_is_refused := by
  obtain ⟨C_NoMap, x_NoMap⟩ := T.x_NoMap
  refine ok_def (N := ["_law_flag", "_law_numbers", "_law_a", "_law_b", "_law_c", "_law_d"]) T.d__law_is_refused sc__law_is_refused (fun _ _ _ _ _ _ us hl => match us, hl with | [_, _], _ => rfl) (fun _ _ _ _ _ _ us hl => match us, hl with | [_, _], _ => rfl) fun f cdv A fs s H E hr hgd => ?_
  have nd := sc__law_is_refused.nd
  exact ss_cons (s_asg (d_var 1) (g_unp rfl (gs_cons (g_name 2 nd) (gs_cons (g_name 3 nd) (gs_cons (g_name 4 nd) (gs_cons (g_name 5 nd) (gs_nil))))))) (ss_cons (s_tryO rfl rfl ⟨rfl, by decide, .inl x_NoMap.gC⟩ (T.m_NoMap _ x_NoMap.gC) (fun c r W pn xe tk lk => ssx_one (sx_expr (x_call (ok_map_of T) (hr.mono (by decide)) hgd tk lk (a_cons (d_var 0) (a_cons (d_var 2) (a_cons (d_var 3) (a_cons (d_var 4) (a_cons (d_var 5) (a_nil))))))))) (fun a oe cls d pn hz hf => ss_one (s_ret (d_bl)))) (ss_one (s_ret (d_bl))))
theorem ok__law_value (T : Tx K mg) : Ok P w K mg base 6 "_law_value" ["_law_tank_here"] sm__law_value := by
  refine ok_def (N := ["_law_tank_here", "_law_flag", "_law_numbers", "_law_way", "_law_chart", "_law_at", "_law_times_here", "_law_each"]) T.d__law_value sc__law_value (fun _ _ _ _ _ _ us hl => match us, hl with | [_], _ => rfl) (fun _ _ _ _ _ _ us hl => match us, hl with | [_], _ => rfl) fun f cdv A fs s H E hr hgd => ?_
  have nd := sc__law_value.nd
  exact ss_cons (s_par3 1 2 3 rfl nd (a_cons (d_call (ok__law_draw T) (hr.mono (by decide)) hgd (a_tank 0 (a_cons (d_int) (a_nil)))) (a_cons (d_call (ok__law_four T) (hr.mono (by decide)) hgd (a_tank 0 (a_nil))) (a_cons (d_call (ok__law_draw T) (hr.mono (by decide)) hgd (a_tank 0 (a_cons (d_int) (a_nil)))) (a_nil))))) (ss_cons (s_par 4 5 rfl nd (a_cons (d_call (ok__law_map T) (hr.mono (by decide)) hgd (a_cons (d_var 1) (a_cons (d_var 2) (a_nil)))) (a_cons (f_add (d_int) (d_call (ok__law_draw T) (hr.mono (by decide)) hgd (a_tank 0 (a_cons (d_int) (a_nil))))) (a_nil)))) (ss_cons (s_if (t_feq hr (d_var 3) (d_int)) (ss_cons (s_set 6 nd (d_call (ok__law_pick T) (hr.mono (by decide)) hgd (a_tank 0 (a_cons (d_tup (a_cons (d_tup (a_cons (d_int) (a_cons (d_int) (a_nil)))) (a_cons (d_tup (a_cons (d_neg (d_int)) (a_cons (d_int) (a_nil)))) (a_cons (d_tup (a_cons (d_int) (a_cons (d_int) (a_nil)))) (a_cons (d_tup (a_cons (d_int) (a_cons (d_int) (a_nil)))) (a_nil)))))) (a_nil))))) (ss_one (s_ret (f_add (d_tup (a_cons (d_var 1) (a_nil))) (g_totup T.z_tuple (a_cons (d_lc [("_law_each", 7)] rfl nd (g_seq (g_slice (d_var 4) (p_some (d_int)) p_none)) (cg_name) (fun _ _ _ _ _ => pg_name (i := 7) nd rfl (by first | exact Or.inl rfl | exact Or.inr rfl)) (fun _ _ _ _ _ => ts_nil) (fun _ _ _ _ _ => d_call (ok__law_times T) (hr.mono (by decide)) hgd (a_cons (d_var 7) (a_cons (d_var 6) (a_nil)))) (ok := blkOk_by (N := ["_law_tank_here", "_law_flag", "_law_numbers", "_law_way", "_law_chart", "_law_at", "_law_times_here", "_law_each"]) (sc := defScope st__law_value) (by decide +kernel))) (a_nil))))))) (ss_nil)) (ss_cons (s_if (t_feq hr (d_var 3) (d_int)) (ss_one (s_ret (f_add (f_add (g_slice (d_var 4) p_none (p_some (d_var 5))) (d_tup (a_cons (d_call (ok__law_pick T) (hr.mono (by decide)) hgd (a_tank 0 (a_cons (d_tup (a_cons (d_non) (a_cons (d_tup (a_cons (d_int) (a_nil))) (a_cons (d_tup (a_cons (d_int) (a_cons (d_int) (a_cons (d_int) (a_nil))))) (a_cons (d_lst (a_cons (d_int) (a_cons (d_int) (a_nil)))) (a_cons (d_tup (a_cons (d_bl) (a_cons (d_int) (a_nil)))) (a_cons (d_int) (a_cons (d_str) (a_nil))))))))) (a_nil)))) (a_nil)))) (g_slice (d_var 4) (p_some (f_add (d_var 5) (d_int))) p_none)))) (ss_nil)) (ss_cons (s_if (t_feq hr (d_var 3) (d_int)) (ss_one (s_ret (f_add (d_tup (a_cons (d_call (ok__law_pick T) (hr.mono (by decide)) hgd (a_tank 0 (a_cons (d_tup (a_cons (d_int) (a_cons (d_neg (d_int)) (a_cons (d_bl) (a_cons (d_bl) (a_cons (d_non) (a_cons (d_str) (a_nil)))))))) (a_nil)))) (a_nil))) (g_slice (d_var 4) (p_some (d_int)) p_none)))) (ss_nil)) (ss_cons (s_if (t_feq hr (d_var 3) (d_int)) (ss_one (s_ret (d_call (ok__law_pick T) (hr.mono (by decide)) hgd (a_tank 0 (a_cons (d_tup (a_cons (g_tolist T.z_list (a_cons (d_var 4) (a_nil))) (a_cons (g_slice (d_var 4) p_none (p_some (d_int))) (a_cons (f_add (d_var 4) (d_tup (a_cons (d_tup (a_cons (d_int) (a_cons (d_int) (a_nil)))) (a_nil)))) (a_cons (g_slice (d_var 4) (p_some (d_int)) p_none) (a_cons (d_non) (a_cons (d_int) (a_cons (d_tup (a_nil)) (a_cons (d_str) (a_cons (d_dct0) (a_nil))))))))))) (a_nil)))))) (ss_nil)) (ss_cons (s_if (t_feq hr (d_var 3) (d_int)) (ss_one (s_ret (f_add (d_tup (a_cons (d_var 1) (a_nil))) (d_call (ok__law_pick T) (hr.mono (by decide)) hgd (a_tank 0 (a_cons (d_tup (a_cons (f_mulT (d_tup (a_cons (d_tup (a_cons (d_int) (a_cons (d_int) (a_nil)))) (a_nil))) (d_int)) (a_cons (d_tup (a_cons (d_tup (a_cons (d_int) (a_cons (d_int) (a_nil)))) (a_cons (d_tup (a_cons (d_int) (a_cons (d_int) (a_nil)))) (a_cons (d_tup (a_cons (d_int) (a_cons (d_int) (a_nil)))) (a_cons (d_tup (a_cons (d_int) (a_cons (d_int) (a_nil)))) (a_nil)))))) (a_cons (d_tup (a_cons (d_tup (a_cons (d_int) (a_cons (d_int) (a_nil)))) (a_cons (d_tup (a_cons (d_int) (a_cons (d_int) (a_nil)))) (a_cons (d_tup (a_cons (d_int) (a_cons (d_int) (a_nil)))) (a_cons (d_tup (a_cons (d_int) (a_cons (d_neg (d_int)) (a_nil)))) (a_nil)))))) (a_nil))))) (a_nil))))))) (ss_nil)) (ss_one (s_ret (d_if (t_flt (d_var 3) (d_int)) (f_add (d_tup (a_cons (d_var 1) (a_nil))) (g_totup T.z_tuple (a_cons (d_var 2) (a_nil)))) (d_var 4))))))))))
theorem ok__law_right (T : Tx K mg) : Ok P w K mg base 7 "_law_right" ["_law_tank_here"] sm__law_right := by
  refine ok_def (N := ["_law_tank_here", "_law_flag", "_law_numbers", "_law_times_here", "_law_great", "_law_one", "_law_two", "_law_flat", "_law_turn", "_law_thing", "_law_due"]) T.d__law_right sc__law_right (fun _ _ _ _ _ _ us hl => match us, hl with | [_], _ => rfl) (fun _ _ _ _ _ _ us hl => match us, hl with | [_], _ => rfl) fun f cdv A fs s H E hr hgd => ?_
  have nd := sc__law_right.nd
  exact ss_cons (s_par3 1 2 3 rfl nd (a_cons (d_call (ok__law_draw T) (hr.mono (by decide)) hgd (a_tank 0 (a_cons (d_int) (a_nil)))) (a_cons (d_call (ok__law_four T) (hr.mono (by decide)) hgd (a_tank 0 (a_nil))) (a_cons (d_call (ok__law_complex T) (hr.mono (by decide)) hgd (a_tank 0 (a_nil))) (a_nil))))) (ss_cons (s_set 3 nd (d_if (t_fne hr (d_var 3) (d_tup (a_cons (d_int) (a_cons (d_int) (a_nil))))) (d_var 3) (d_tup (a_cons (d_int) (a_cons (d_neg (d_int)) (a_nil)))))) (ss_cons (s_set 4 nd (d_lst (a_cons (d_call (ok__law_complex T) (hr.mono (by decide)) hgd (a_tank 0 (a_nil))) (a_cons (d_call (ok__law_complex T) (hr.mono (by decide)) hgd (a_tank 0 (a_nil))) (a_cons (d_call (ok__law_complex T) (hr.mono (by decide)) hgd (a_tank 0 (a_nil))) (a_cons (d_call (ok__law_complex T) (hr.mono (by decide)) hgd (a_tank 0 (a_nil))) (a_nil))))))) (ss_cons (s_if (d_tnot (d_tst (d_call (ok__law_form_right T) (hr.mono (by decide)) hgd (a_cons (d_var 1) (a_cons (d_var 2) (a_cons (d_var 3) (a_nil))))))) (ss_one (s_ret (d_bl))) (ss_nil)) (ss_cons (s_if ((d_wand (t_fne hr (d_call (ok__law_det T) (hr.mono (by decide)) hgd (a_cons (d_var 4) (a_nil))) (d_tup (a_cons (d_int) (a_cons (d_int) (a_nil))))) (d_w1a (d_tnot (d_tst (d_call (ok__law_form_right T) (hr.mono (by decide)) hgd (a_cons (d_var 1) (a_cons (d_var 4) (a_cons (d_var 3) (a_nil))))))))).pt) (ss_one (s_ret (d_bl))) (ss_nil)) (ss_cons (s_par 5 6 rfl nd (a_cons (d_call (ok__law_complex T) (hr.mono (by decide)) hgd (a_tank 0 (a_nil))) (a_cons (d_call (ok__law_little T) (hr.mono (by decide)) hgd (a_tank 0 (a_nil))) (a_nil)))) (ss_cons (s_set 7 nd (d_lst (a_cons (f_ix (d_var 4) (d_int)) (a_cons (f_ix (d_var 4) (d_int)) (a_cons (d_call (ok__law_times T) (hr.mono (by decide)) hgd (a_cons (f_ix (d_var 4) (d_int)) (a_cons (d_var 6) (a_nil)))) (a_cons (d_call (ok__law_times T) (hr.mono (by decide)) hgd (a_cons (f_ix (d_var 4) (d_int)) (a_cons (d_var 6) (a_nil)))) (a_nil))))))) (ss_cons (s_if ((d_wor (d_tnot (d_tst (d_call (ok__law_is_refused T) (hr.mono (by decide)) hgd (a_cons (d_var 1) (a_cons (d_var 7) (a_nil)))))) (d_w1o (d_tnot (d_tst (d_call (ok__law_is_refused T) (hr.mono (by decide)) hgd (a_cons (d_var 1) (a_cons (d_lst (a_cons (d_tup (a_cons (d_int) (a_cons (d_int) (a_nil)))) (a_cons (d_var 5) (a_cons (d_tup (a_cons (d_int) (a_cons (d_int) (a_nil)))) (a_cons (d_var 6) (a_nil)))))) (a_nil)))))))).pt) (ss_one (s_ret (d_bl))) (ss_nil)) (ss_cons (s_forI PassesOwn.never rfl (i_range1 T.z_range (a_cons (d_int) (a_nil))) (g_name 8 nd) (ss_cons (s_set 9 nd (d_call (ok__law_value T) (hr.mono (by decide)) hgd (a_tank 0 (a_nil)))) (ss_cons (s_set 10 nd (d_call (ok__law_is_map T) (hr.mono (by decide)) hgd (a_cons (d_var 9) (a_nil)))) (ss_one (s_if (t_fne hr (g_repr hgd (room66 hr) T.z_repr (a_cons (d_lst (a_cons (d_call (ok_is_map T) (hr.mono (by decide)) hgd (a_cons (d_var 9) (a_nil))) (a_cons (d_callK (ok_is_map T) (hr.mono (by decide)) hgd (k_cons (d_var 9) (k_nil))) (a_nil)))) (a_nil))) (g_repr hgd (room66 hr) T.z_repr (a_cons (d_lst (a_cons (d_var 10) (a_cons (d_var 10) (a_nil)))) (a_nil)))) (ss_one (s_ret (d_bl))) (ss_nil)))))) (ss_one (s_ret (d_bl)))))))))))
theorem ok_law (T : Tx K mg) : Ok P w K mg base 8 "law" ["_law_script"] sm_law := by
  refine ok_def (N := ["_law_script", "_law_spot"]) T.d_law sc_law (fun _ _ _ _ _ _ us hl => match us, hl with | [_], _ => rfl) (fun _ _ _ _ _ _ us hl => match us, hl with | [_], _ => rfl) fun f cdv A fs s H E hr hgd => ?_
  have nd := sc_law.nd
  exact ss_cons (s_forI PassesOwn.never rfl (i_range1 T.z_range (a_cons (d_call (ok__law_rounds T) (hr.mono (by decide)) hgd (a_cons (d_var 0) (a_nil))) (a_nil))) (g_name 1 nd) (ss_one (s_if (d_tnot (d_tst (d_callT (ok__law_right T) (ok__law_tank T) (hr.mono (by decide)) (hr.mono (by decide)) hgd (a_cons (d_var 0) (a_cons (d_var 1) (a_nil))) rfl))) (ss_one (s_ret (d_bl))) (ss_nil)))) (ss_one (s_ret (d_bl)))
end
theorem hd_tx {K : PySem.W.Frag} {mg : Str → Option Value} {h : Heap} (X : K.In h) (G : h.Ns mainGlobals mg) (c : hd.Says K) : Tx K mg := {
  d_is_whole := c.df X G 0
  d_are_wholes := c.df X G 1
  d_is_complex := c.df X G 2
  d_check_complex := c.df X G 3
  d_minus := c.df X G 4
  d_times := c.df X G 5
  d_turned_over := c.df X G 6
  d_square_size := c.df X G 7
  d_unit_for := c.df X G 8
  d_nearest := c.df X G 9
  d_divisor_of_two := c.df X G 10
  d_divisor_of_all := c.df X G 11
  d_divided := c.df X G 12
  d_determinant := c.df X G 13
  d_form_of := c.df X G 14
  d_is_flag := c.df X G 15
  d_is_map := c.df X G 16
  d_map_of := c.df X G 17
  d__law_tank := c.df X G 18
  d__law_draw := c.df X G 19
  d__law_pick := c.df X G 20
  d__law_rounds := c.df X G 21
  d__law_number := c.df X G 22
  d__law_small := c.df X G 23
  d__law_less := c.df X G 24
  d__law_times := c.df X G 25
  d__law_star := c.df X G 26
  d__law_size := c.df X G 27
  d__law_quarter := c.df X G 28
  d__law_over := c.df X G 29
  d__law_common := c.df X G 30
  d__law_is_whole := c.df X G 31
  d__law_complex := c.df X G 32
  d__law_little := c.df X G 33
  d__law_map := c.df X G 34
  d__law_det := c.df X G 35
  d__law_four := c.df X G 36
  d__law_is_map := c.df X G 37
  d__law_is_along := c.df X G 38
  d__law_form_right := c.df X G 39
  d__law_is_refused := c.df X G 40
  d__law_value := c.df X G 41
  d__law_right := c.df X G 42
  d_law := c.df X G 43
  z_abs := c.fr X G 0
  z_all := c.fr X G 1
  z_bool := c.fr X G 2
  z_divmod := c.fr X G 3
  z_int := c.fr X G 4
  z_isinstance := c.fr X G 5
  z_len := c.fr X G 6
  z_list := c.fr X G 7
  z_max := c.fr X G 8
  z_min := c.fr X G 9
  z_range := c.fr X G 10
  z_repr := c.fr X G 11
  z_tuple := c.fr X G 12
  c_UNITS := c.gc X G 0
  c_ZERO := c.gc X G 1
  x_NoMap := c.xc X G 0
  m_NoMap := c.xm X G (fun nm q => by unfold mt_NoMap at q; (repeat (split at q)); all_goals (first | (subst_vars; decide +kernel) | cases q))
  }
private theorem forL_c {g : dG} {f : dS} {k : dEnds} {d : D} {r : List D} {ρ : En} {T : Tk} : forL g f k (d :: r) ρ T = g d ρ T fun ρ1 T1 => f { nx := forL g f k r, rt := k.rt, bk := k.nx, ct := forL g f k r } ρ1 T1 := rfl
private theorem forL_n {g : dG} {f : dS} {k : dEnds} {ρ : En} {T : Tk} : forL g f k [] ρ T = k.nx ρ T := rfl
private theorem repD_succ {xs : List D} {n : Nat} : repD xs (n + 1) = xs ++ repD xs n := by unfold repD; rw [List.replicate_succ, List.flatten_cons]
private theorem repD_zero {xs : List D} : repD xs 0 = [] := rfl
local macro_rules | `(tactic| walk_at "ev") => `(tactic| try simp (maxSteps := 2000000) only [dVar, dC, dOp, dNeg, dIsN, dNotN, dTst, dAnd, dOr, dNot, dAndV, dOrV, dNotV, dIf, aNil, aCons, aTank, aStar, dTup, dLst, vals?, oF, oG, fAdd_int, fAdd_lst, fAdd_tup, fAdd_str, fSub_int, fSub_bl, fMul_int, fMul_lst, fDiv_int, fMod_int, fPow_int, fShl_int, fLt_int, fLe_int, fGt_int, fGe_int, fEq_int, fEq_str, fEq_bl, fEq_tup, fEq_lst, fEq_tn, fEq_nt, fEq_nn,
  fNe_int, fNe_str, fNe_bl, fNe_tup, fNe_lst, fNe_tn, fNe_nt, fNe_nn, fIn_lst, fNotIn_lst, fInS_lst, fInS_tup, fNotInS_lst, fNotInS_tup, gTL, iZA, zip2_lst, zip2_tup, zipD_nil, zipD_cons, enD, iEn, sOwnC, sParC, sPar3C, gOs, sFrq, dView, dViewT, noL_int, noL_bl, noL_str, noL_non, noL_tup, noLL_nil, noLL_cons, fIx_tup, fIx_lst, fIx_scr, ixR_some, it_tup, it_lst, cutq_lst, cutq_scr, cutq_tup, dSlQ, pSome, sSeq, sRet, sExpr, sIf, sAsg, gN, gsNil, gsCons, gT, sPar, sPar3, sParO, sForI, iQ, iR1, iR2, iR3, iZ, dCall, dCallT, dBlt, fLen_tup, fLen_lst, fLen_scr, fI1_int, fI2_int, fInt_int, fInt_bl, fSqrt_isq, fDivmod_int, fAll_lst, fAny_lst, fSum_lst, blR_some, nuR_some, fTuple_lst, fTuple_tup, fList_lst, fList_tup, fList_scr, fRepr_int, fRepr_tup, fRepr_lst, dIsi, isTy, sOwn, sFrz, sApp,
  dTix, gTs, isTank, dLc, cN, cT, setAll, dYes, wipeD, no0, isNon_non, isNon_int, isNon_bl, isNon_str, isNon_tup, isNon_lst, eqD_int, eqD_str, eqD_bl, eqD_nn, eqD_ni, eqD_in, eqD_nt, eqD_tn, eqD_tup, eqD_lst, eqDL_nil, eqDL_nc, eqDL_cn, eqDL_cons, Bool.and_eq_true, List.any_cons, List.any_nil, ifT, ifF, ifA, ifO, List.length_cons, List.length_nil, List.cons_append, List.nil_append, List.getElem?_cons_zero, List.getElem?_cons_succ, List.set_cons_zero, List.set_cons_succ, Option.map_some, Nat.reduceAdd, Nat.reduceSub, atI_lit, ixN_lit, atI_m1, Nat.reduceLT, reduceIte, Nat.reduceLeDiff, true_and,
  and_true, List.append_nil, List.map_cons, List.map_nil, decide_eq_true_eq, Bool.not_eq_true', decide_eq_false_iff_not, Int.cast_ofNat_Int, Int.reduceLT, Int.reduceLE, decide_true, decide_false, Bool.false_eq_true, Bool.not_true, Bool.not_false, lcD, forL_c, forL_n, cut_none, cut_to, cut_from, cut_fromto, List.take_succ_cons, List.take_zero, List.drop_succ_cons, List.drop_zero, List.take_nil, List.drop_nil, bls_nil, bls_cons, nums_nil, nums_cons, all_nil', all_cons', any_nil', any_cons', Bool.and_true, Bool.true_and, Bool.or_false, Bool.false_or, Bool.and_false, Bool.false_and])
local macro_rules | `(tactic| walk_at "evn") => `(tactic| try simp (maxSteps := 2000000) only [dVar, dC, dOp, dNeg, dIsN, dNotN, dTst, dAnd, dOr, dNot, dAndV, dOrV, dNotV, dIf, aNil, aCons, aTank, aStar, dTup, dLst, vals?, oF, oG, fAdd_int, fAdd_lst, fAdd_tup, fAdd_str, fSub_int, fSub_bl, fMul_int, fMul_lst, fDiv_int, fMod_int, fPow_int, fShl_int, fLt_int, fLe_int, fGt_int, fGe_int, fEq_int, fEq_str, fEq_bl, fEq_tup, fEq_lst, fEq_tn, fEq_nt, fEq_nn,
  fNe_int, fNe_str, fNe_bl, fNe_tup, fNe_lst, fNe_tn, fNe_nt, fNe_nn, fIn_lst, fNotIn_lst, fInS_lst, fInS_tup, fNotInS_lst, fNotInS_tup, gTL, iZA, zip2_lst, zip2_tup, zipD_nil, zipD_cons, enD, iEn, sOwnC, sParC, sPar3C, gOs, sFrq, dView, dViewT, noL_int, noL_bl, noL_str, noL_non, noL_tup, noLL_nil, noLL_cons, fIx_tup, fIx_lst, fIx_scr, ixR_some, it_tup, it_lst, cutq_lst, cutq_scr, cutq_tup, dSlQ, pSome, sSeq, sRet, sExpr, sIf, sAsg, gN, gsNil, gsCons, gT, sPar, sPar3, sParO, sForI, iQ, iR1, iR2, iR3, iZ, dCall, dCallT, dBlt, fLen_tup, fLen_lst, fLen_scr, fI1_int, fI2_int, fInt_int, fInt_bl, fSqrt_isq, fDivmod_int, fAll_lst, fAny_lst, fSum_lst, blR_some, nuR_some, fTuple_lst, fTuple_tup, fList_lst, fList_tup, fList_scr, fRepr_int, fRepr_tup, fRepr_lst, dIsi, isTy, sOwn, sFrz, sApp,
  dTix, gTs, isTank, dLc, cN, cT, setAll, dYes, wipeD, no0, isNon_non, isNon_int, isNon_bl, isNon_str, isNon_tup, isNon_lst, eqD_int, eqD_str, eqD_bl, eqD_nn, eqD_ni, eqD_in, eqD_nt, eqD_tn, eqD_tup, eqD_lst, eqDL_nil, eqDL_nc, eqDL_cn, eqDL_cons, Bool.and_eq_true, List.any_cons, List.any_nil, ifT, ifF, ifA, ifO, List.length_cons, List.length_nil, List.cons_append, List.nil_append, List.getElem?_cons_zero, List.getElem?_cons_succ, List.set_cons_zero, List.set_cons_succ, Option.map_some, Nat.reduceAdd, Nat.reduceSub, atI_lit, ixN_lit, atI_m1, Nat.reduceLT, reduceIte, Nat.reduceLeDiff, true_and,
  and_true, List.append_nil, List.map_cons, List.map_nil, decide_eq_true_eq, Bool.not_eq_true', decide_eq_false_iff_not, Int.cast_ofNat_Int, Int.reduceLT, Int.reduceLE, decide_true, decide_false, Bool.false_eq_true, Bool.not_true, Bool.not_false, lcD, forL_c, forL_n, cut_none, cut_to, cut_from, cut_fromto, List.take_succ_cons, List.take_zero, List.drop_succ_cons, List.drop_zero, List.take_nil, List.drop_nil, bls_nil, bls_cons, nums_nil, nums_cons, all_nil', all_cons', any_nil', any_cons', Bool.and_true, Bool.true_and, Bool.or_false, Bool.false_or, Bool.and_false, Bool.false_and, intsL, Int.reduceToNat, Int.reduceAdd, Int.reduceSub, Int.reduceMul, Int.reduceMod, Int.reduceNeg, Int.reducePow, Int.reduceEq, Int.reduceNe, Int.one_mul, Int.neg_mul, ne_eq, not_true_eq_false, not_false_eq_true, repD_succ, repD_zero, Nat.reduceMul])
local macro_rules | `(tactic| walk_at "mok") => `(tactic| (apply Sz.mulOk; (repeat' (first | assumption | apply Sz.mul | apply Sz.add | apply Sz.sub | apply Sz.neg)); all_goals omega))
local macro_rules | `(tactic| walk_at "evs") => `(tactic| try simp (maxSteps := 2000000) only [dVar, dC, dOp, dNeg, dIsN, dNotN, dTst, dAnd, dOr, dNot, dAndV, dOrV, dNotV, dIf, aNil, aCons, aTank, aStar, dTup, dLst, vals?, oF, oG, fAdd_int, fAdd_lst, fAdd_tup, fAdd_str, fSub_int, fSub_bl, fMul_int, fMul_lst, fDiv_int, fMod_int, fPow_int, fShl_int, fLt_int, fLe_int, fGt_int, fGe_int, fEq_int, fEq_str, fEq_bl, fEq_tup, fEq_lst, fEq_tn, fEq_nt, fEq_nn,
  fNe_int, fNe_str, fNe_bl, fNe_tup, fNe_lst, fNe_tn, fNe_nt, fNe_nn, fIn_lst, fNotIn_lst, fInS_lst, fInS_tup, fNotInS_lst, fNotInS_tup, gTL, iZA, zip2_lst, zip2_tup, zipD_nil, zipD_cons, iEn, sOwnC, sParC, sPar3C, gOs, sFrq, dView, dViewT, noL_int, noL_bl, noL_str, noL_non, noL_tup, noLL_nil, noLL_cons, fIx_tup, fIx_lst, fIx_scr, ixR_some, it_tup, it_lst, cutq_lst, cutq_scr, cutq_tup, dSlQ, pSome, sSeq, sRet, sExpr, sIf, sAsg, gN, gsNil, gsCons, gT, sPar, sPar3, sParO, sForI, iQ, iR1, iR2, iR3, iZ, dCall, dCallT, dBlt, fLen_tup, fLen_lst, fLen_scr, fI1_int, fI2_int, fInt_int, fInt_bl, fSqrt_isq, fDivmod_int, fAll_lst, fAny_lst, fSum_lst, blR_some, nuR_some, fTuple_lst, fTuple_tup, fList_lst, fList_tup, fList_scr, fRepr_int, fRepr_tup, fRepr_lst, dIsi, isTy, sOwn, sFrz, sApp,
  dTix, gTs, isTank, dLc, cN, cT, setAll, dYes, wipeD, no0, isNon_non, isNon_int, isNon_bl, isNon_str, isNon_tup, isNon_lst, eqD_int, eqD_str, eqD_bl, eqD_nn, eqD_ni, eqD_in, eqD_nt, eqD_tn, eqD_tup, eqD_lst, eqDL_nil, eqDL_nc, eqDL_cn, eqDL_cons, Bool.and_eq_true, List.any_cons, List.any_nil, ifT, ifF, ifA, ifO, List.length_cons, List.length_nil, List.cons_append, List.nil_append, List.getElem?_cons_zero, List.getElem?_cons_succ, List.set_cons_zero, List.set_cons_succ, Option.map_some, Nat.reduceAdd, Nat.reduceSub, atI_lit, ixN_lit, atI_m1, Nat.reduceLT, reduceIte, Nat.reduceLeDiff, true_and,
  and_true, List.append_nil, List.map_cons, List.map_nil, decide_eq_true_eq, Bool.not_eq_true', decide_eq_false_iff_not, Int.cast_ofNat_Int, Int.reduceLT, Int.reduceLE, decide_true, decide_false, Bool.false_eq_true, Bool.not_true, Bool.not_false, lcD, cut_none, cut_to, cut_from, cut_fromto, List.take_succ_cons, List.take_zero, List.drop_succ_cons, List.drop_zero, List.take_nil, List.drop_nil, bls_nil, bls_cons, nums_nil, nums_cons, all_nil', all_cons', any_nil', any_cons', Bool.and_true, Bool.true_and, Bool.or_false, Bool.false_or, Bool.and_false, Bool.false_and, intsL, Int.reduceToNat, Int.reduceAdd, Int.reduceSub, Int.reduceMul, Int.reduceMod, Int.reduceNeg, Int.reducePow, Int.reduceEq, Int.reduceNe, Int.one_mul, Int.neg_mul, ne_eq, not_true_eq_false, not_false_eq_true, repD_succ, repD_zero, Nat.reduceMul])
local macro_rules | `(tactic| walk_at "evm") => `(tactic| try simp (maxSteps := 2000000) only [dVar, dC, dOp, dNeg, dIsN, dNotN, dTst, dAnd, dOr, dNot, dAndV, dOrV, dNotV, dIf, aNil, aCons, aTank, aStar, dTup, dLst, vals?, oF, oG, fAdd_int, fAdd_lst, fAdd_tup, fAdd_str, fSub_int, fSub_bl, fMul_int, fMul_lst, fDiv_int, fMod_int, fPow_int, fShl_int, fLt_int, fLe_int, fGt_int, fGe_int, fEq_int, fEq_str, fEq_bl, fEq_tup, fEq_lst, fEq_tn, fEq_nt, fEq_nn,
  fNe_int, fNe_str, fNe_bl, fNe_tup, fNe_lst, fNe_tn, fNe_nt, fNe_nn, fIn_lst, fNotIn_lst, fInS_lst, fInS_tup, fNotInS_lst, fNotInS_tup, gTL, iZA, zip2_lst, zip2_tup, zipD_nil, zipD_cons, iEn, sOwnC, sParC, sPar3C, gOs, sFrq, dView, dViewT, noL_int, noL_bl, noL_str, noL_non, noL_tup, noLL_nil, noLL_cons, fIx_tup, fIx_lst, fIx_scr, ixR_some, it_tup, it_lst, cutq_lst, cutq_scr, cutq_tup, dSlQ, pSome, sSeq, sRet, sExpr, sIf, sAsg, gN, gsNil, gsCons, gT, sPar, sPar3, sParO, sForI, iQ, iR1, iR2, iR3, iZ, dCall, dCallT, dBlt, fLen_tup, fLen_lst, fLen_scr, fI1_int, fI2_int, fInt_int, fInt_bl, fSqrt_isq, fDivmod_int, fAll_lst, fAny_lst, fSum_lst, blR_some, nuR_some, fTuple_lst, fTuple_tup, fList_lst, fList_tup, fList_scr, fRepr_int, fRepr_tup, fRepr_lst, dIsi, isTy, sOwn, sFrz, sApp,
  dTix, gTs, isTank, dLc, cN, cT, setAll, dYes, wipeD, no0, isNon_non, isNon_int, isNon_bl, isNon_str, isNon_tup, isNon_lst, eqD_int, eqD_str, eqD_bl, eqD_nn, eqD_ni, eqD_in, eqD_nt, eqD_tn, eqD_tup, eqD_lst, eqDL_nil, eqDL_nc, eqDL_cn, eqDL_cons, Bool.and_eq_true, List.any_cons, List.any_nil, ifT, ifF, ifA, ifO, List.length_cons, List.length_nil, List.cons_append, List.nil_append, List.getElem?_cons_zero, List.getElem?_cons_succ, List.set_cons_zero, List.set_cons_succ, Option.map_some, Nat.reduceAdd, Nat.reduceSub, atI_lit, ixN_lit, atI_m1, Nat.reduceLT, reduceIte, Nat.reduceLeDiff, true_and,
  and_true, List.append_nil, List.map_cons, List.map_nil, decide_eq_true_eq, Bool.not_eq_true', decide_eq_false_iff_not, Int.cast_ofNat_Int, Int.reduceLT, Int.reduceLE, decide_true, decide_false, Bool.false_eq_true, Bool.not_true, Bool.not_false, cut_none, cut_to, cut_from, cut_fromto, List.take_succ_cons, List.take_zero, List.drop_succ_cons, List.drop_zero, List.take_nil, List.drop_nil, bls_nil, bls_cons, nums_nil, nums_cons, all_nil', all_cons', any_nil', any_cons', Bool.and_true, Bool.true_and, Bool.or_false, Bool.false_or, Bool.and_false, Bool.false_and, intsL, Int.reduceToNat, Int.reduceAdd, Int.reduceSub, Int.reduceMul, Int.reduceMod, Int.reduceNeg, Int.reducePow, Int.reduceEq, Int.reduceNe, Int.one_mul, Int.neg_mul, ne_eq, not_true_eq_false, not_false_eq_true, repD_succ, repD_zero, Nat.reduceMul])
local macro_rules | `(tactic| walk_at "evq") => `(tactic| try simp (maxSteps := 2000000) only [dVar, dC, dOp, dNeg, dIsN, dNotN, dTst, dAnd, dOr, dNot, dAndV, dOrV, dNotV, dIf, aNil, aCons, aTank, aStar, dTup, dLst, vals?, oF, oG, fAdd_int, fAdd_lst, fAdd_tup, fAdd_str, fSub_int, fSub_bl, fMul_int, fMul_lst, fDiv_int, fMod_int, fPow_int, fShl_int, fLt_int, fLe_int, fGt_int, fGe_int, fEq_int, fEq_str, fEq_bl, fEq_tup, fEq_lst, fEq_tn, fEq_nt, fEq_nn,
  fNe_int, fNe_str, fNe_bl, fNe_tup, fNe_lst, fNe_tn, fNe_nt, fNe_nn, fIn_lst, fNotIn_lst, fInS_lst, fInS_tup, fNotInS_lst, fNotInS_tup, gTL, iZA, zip2_lst, zip2_tup, zipD_nil, zipD_cons, iEn, sOwnC, sParC, sPar3C, gOs, sFrq, dView, dViewT, noL_int, noL_bl, noL_str, noL_non, noL_tup, noLL_nil, noLL_cons, fIx_tup, fIx_lst, fIx_scr, ixR_some, it_tup, it_lst, cutq_lst, cutq_scr, cutq_tup, dSlQ, pSome, sSeq, sRet, sExpr, sIf, sAsg, gN, gsNil, gsCons, gT, sPar, sPar3, sParO, sForI, iQ, iR1, iR2, iR3, iZ, dCall, dCallT, dBlt, fLen_tup, fLen_lst, fLen_scr, fI1_int, fI2_int, fInt_int, fInt_bl, fSqrt_isq, fDivmod_int, fAll_lst, fAny_lst, fSum_lst, blR_some, nuR_some, fTuple_lst, fTuple_tup, fList_lst, fList_tup, fList_scr, fRepr_int, fRepr_tup, fRepr_lst, dIsi, isTy, sOwn, sFrz, sApp,
  dTix, gTs, isTank, dLc, cN, cT, setAll, dYes, wipeD, no0, isNon_non, isNon_int, isNon_bl, isNon_str, isNon_tup, isNon_lst, eqD_int, eqD_str, eqD_bl, eqD_nn, eqD_ni, eqD_in, eqD_nt, eqD_tn, eqD_tup, eqD_lst, eqDL_nil, eqDL_nc, eqDL_cn, eqDL_cons, Bool.and_eq_true, List.any_cons, List.any_nil, ifT, ifF, ifA, ifO, List.length_cons, List.length_nil, List.cons_append, List.nil_append, List.getElem?_cons_zero, List.getElem?_cons_succ, List.set_cons_zero, List.set_cons_succ, Option.map_some, Nat.reduceAdd, Nat.reduceSub, atI_lit, ixN_lit, atI_m1, Nat.reduceLT, reduceIte, Nat.reduceLeDiff, true_and,
  and_true, List.append_nil, List.map_cons, List.map_nil, decide_eq_true_eq, Bool.not_eq_true', decide_eq_false_iff_not, Int.cast_ofNat_Int, Int.reduceLT, Int.reduceLE, decide_true, decide_false, Bool.false_eq_true, Bool.not_true, Bool.not_false, cut_none, cut_to, cut_from, cut_fromto, List.take_succ_cons, List.take_zero, List.drop_succ_cons, List.drop_zero, List.take_nil, List.drop_nil, bls_nil, bls_cons, nums_nil, nums_cons, all_nil', all_cons', any_nil', any_cons', Bool.and_true, Bool.true_and, Bool.or_false, Bool.false_or, Bool.and_false, Bool.false_and, Int.reduceAdd, Int.reduceSub, Int.reduceMul, Int.reduceMod, Int.reduceNeg, Int.reducePow, Int.reduceEq, Int.reduceNe, Int.one_mul, Int.neg_mul, ne_eq, not_true_eq_false, not_false_eq_true, repD_succ, repD_zero, Nat.reduceMul])
local macro_rules | `(tactic| walk_at "wk") => `(tactic| (try simp (maxSteps := 2000000) (dsimp := false) (implicitDefEqProofs := false) only [↓h_var, ↓h_c, ↓h_op, ↓h_neg, ↓h_isN, ↓h_notN, ↓h_tst, ↓h_and, ↓h_or, ↓h_not, ↓h_andV, ↓h_orV, ↓h_notV, ↓h_if, ↓h_anil, ↓h_acons, ↓h_atank, ↓h_astar, ↓h_tup, ↓h_lst, ↓h_call, ↓h_callT, ↓h_callP, ↓h_aApp, ↓h_blt, ↓h_psome, ↓h_slq, ↓h_rev, ↓h_dct0, ↓h_dct1, ↓h_dctIx, ↓h_isi, ↓h_iQ, ↓h_iR1, ↓h_iR2, ↓h_iR3, ↓h_iZA, ↓h_iEn, ↓h_seq, ↓h_ret, ↓h_expr, ↓h_sif, ↓h_asg, ↓h_gN, ↓h_gsnil, ↓h_gscons, ↓h_gTL, ↓h_gT, ↓h_par, ↓h_par3, ↓h_parO, ↓h_parF, ↓h_parC, ↓h_par3C, ↓h_own, ↓h_ownC, ↓h_frz, ↓h_frq, ↓h_app, ↓h_view, ↓h_viewT, ↓h_gOs, ↓h_for, ↓h_lc, ↓h_lcO, ↓h_yes, ↓oF_pd, ↓orVK_t, ↓andVK_f, ↓orK_t, ↓andK_f, varK_go, iteB_t, iteB_f, iteB_not, iteB_tt, setE_go, pdK_c, pdK_t, negK_go, bolK_go, tstK_go, andK_t, andK_f, andK_p, andK_q, orK_t, orK_f, orK_p, orK_q, andVK_t, andVK_f, andVK_p, andVK_q, orVK_t, orVK_f, orVK_p, orVK_q, notVK_go, tnkK_go, sqK_go, vals_val, vals_nil, callN_go, callP_go, lstK_go, opK_go, intK_go, blqK_go, r1K_go, r2K_go, r3K_go, zpK_go, parK_go, parK3_go, ownK_o, ownK_v, ownK_n, natK_go, forK_nil, forK_cons, lcK_nil, lcK_cons, enK_go, h_cN, h_cT, setAll_nil, setAll_cons, wipe_nil, wipe_cons, okN_t, okN_non, okN_int, okN_bl, okN_tup, okN_lst, okL_nil, okL_cons, fSortT_lst, stR_some, fSortS_lst, stS_some, fLtU_int, fLtU_tup, ltR_some, tups_nil, tups_c, tpC_some, fBitL_int, permL_n, permL_c, pmC_s, fMaxL_lst, mxR_some, isTy_dct, isNon_dct, fIs_bl, fIsn_bl, bIs_t, bIs_f, bIs_s, rev_lst, rev_tup, rev_scr, List.reverse_cons, List.reverse_nil, fAdd_int, fAdd_lst, fAdd_tup, fAdd_str, fSub_int, fSub_bl, fMul_int, fMul_lst, fDiv_int, fMod_int, fPow_int, fShl_int, fLt_int, fLe_int, fGt_int, fGe_int, fEq_int, fEq_str, fEq_bl, fEq_tup, fEq_lst, fEq_tn, fEq_nt, fEq_nn, fEq_it, fEq_ti, fEq_in, fEq_ni, fNe_in, fNe_ni, fNe_int, fNe_str, fNe_bl, fNe_tup, fNe_lst, fNe_tn, fNe_nt, fNe_nn, fInS_lst, fInS_tup, fNotInS_lst, fNotInS_tup, zip2_lst, zip2_tup, zipD_nil, zipD_cons, enD, noL_int, noL_bl, noL_str, noL_non, noL_tup, noLL_nil, noLL_cons, fIx_tup, fIx_lst, fIx_scr, ixR_some, it_tup, it_lst, cutq_lst, cutq_scr, cutq_tup, fLen_tup, fLen_lst, fLen_scr, fI1_int, fI2_int, fInt_int, fInt_bl, fSqrt_isq, fDivmod_int, fAll_lst, fAny_lst, fSum_lst, blR_some, nuR_some, fTuple_lst, fTuple_tup, fList_lst, fList_tup, fList_scr, fRepr_int, fRepr_bl, fRepr_non, fRepr_tup, fRepr_lst, isTy, isNon_non, isNon_int, isNon_bl, isNon_str, isNon_tup, isNon_lst, eqD_int, eqD_str, eqD_bl, eqD_nn, eqD_ni, eqD_in, eqD_nt, eqD_tn, eqD_tup, eqD_lst, eqDL_nil, eqDL_nc, eqDL_cn, eqDL_cons, List.any_cons, List.any_nil, List.length_cons, List.length_nil, List.cons_append, List.nil_append, List.getElem?_cons_zero, List.getElem?_cons_succ, List.set_cons_zero, List.set_cons_succ, Option.map_some, Nat.reduceAdd, Nat.reduceSub, atI_lit, ixN_lit, atI_m1, Nat.reduceLT, reduceIte, Nat.reduceLeDiff, true_and, and_true, List.append_nil, List.map_cons, List.map_nil, Bool.not_eq_true', Int.cast_ofNat_Int, Int.reduceLT, Int.reduceLE, decide_true, decide_false, Bool.false_eq_true, Bool.not_true, Bool.not_false, cut_none, cut_to, cut_from, cut_fromto, List.take_succ_cons, List.take_zero, List.drop_succ_cons, List.drop_zero, List.take_nil, List.drop_nil, bls_nil, bls_cons, nums_nil, nums_cons, all_nil', all_cons', any_nil', any_cons', Bool.and_true, Bool.true_and, Bool.or_false, Bool.false_or, Bool.and_false, Bool.false_and, Bool.true_or, Bool.or_true, Int.reduceToNat, Int.reduceAdd, Int.reduceSub, Int.reduceMul, Int.reduceMod, Int.reduceNeg, Int.reducePow, Int.reduceEq, Int.reduceNe, Int.one_mul, Int.neg_mul, ne_eq, not_true_eq_false, not_false_eq_true, repD_succ, repD_zero, Nat.reduceMul, Bool.not_not, eq_self, and_self, false_implies, true_implies, implies_true, Nat.reduceEqDiff]); try rewrite [callS_eq])
local macro_rules | `(tactic| walk_at "wki") => `(tactic| (try simp (maxSteps := 2000000) (dsimp := false) (implicitDefEqProofs := false) only [↓h_var, ↓h_c, ↓h_op, ↓h_neg, ↓h_isN, ↓h_notN, ↓h_tst, ↓h_and, ↓h_or, ↓h_not, ↓h_andV, ↓h_orV, ↓h_notV, ↓h_if, ↓h_anil, ↓h_acons, ↓h_atank, ↓h_astar, ↓h_tup, ↓h_lst, ↓h_call, ↓h_callT, ↓h_callP, ↓h_aApp, ↓h_blt, ↓h_psome, ↓h_slq, ↓h_rev, ↓h_dct0, ↓h_dct1, ↓h_dctIx, ↓h_isi, ↓h_iQ, ↓h_iR1, ↓h_iR2, ↓h_iR3, ↓h_iZA, ↓h_iEn, ↓h_seq, ↓h_ret, ↓h_expr, ↓h_sif, ↓h_asg, ↓h_gN, ↓h_gsnil, ↓h_gscons, ↓h_gTL, ↓h_gT, ↓h_par, ↓h_par3, ↓h_parO, ↓h_parF, ↓h_parC, ↓h_par3C, ↓h_own, ↓h_ownC, ↓h_frz, ↓h_frq, ↓h_app, ↓h_view, ↓h_viewT, ↓h_gOs, ↓h_for, ↓h_lc, ↓h_lcO, ↓h_yes, ↓oF_pd, ↓orVK_t, ↓andVK_f, ↓orK_t, ↓andK_f, varK_go, iteB_t, iteB_f, iteB_not, iteB_tt, setE_go, pdK_c, pdK_t, negK_go, bolK_go, tstK_go, andK_t, andK_f, andK_p, andK_q, orK_t, orK_f, orK_p, orK_q, andVK_t, andVK_f, andVK_p, andVK_q, orVK_t, orVK_f, orVK_p, orVK_q, notVK_go, tnkK_go, sqK_go, vals_val, vals_nil, callN_go, callP_go, lstK_go, opK_go, intK_go, blqK_go, r1K_go, r2K_go, r3K_go, zpK_go, parK_go, parK3_go, ownK_o, ownK_v, ownK_n, natK_go, forK_nil, forK_cons, lcK_nil, lcK_cons, enK_go, h_cN, h_cT, setAll_nil, setAll_cons, wipe_nil, wipe_cons, okN_t, okN_non, okN_int, okN_bl, okN_tup, okN_lst, okL_nil, okL_cons, fSortT_lst, stR_some, fSortS_lst, stS_some, fLtU_int, fLtU_tup, ltR_some, tups_nil, tups_c, tpC_some, fBitL_int, permL_n, permL_c, pmC_s, fMaxL_lst, mxR_some, isTy_dct, isNon_dct, fIs_bl, fIsn_bl, bIs_t, bIs_f, bIs_s, rev_lst, rev_tup, rev_scr, List.reverse_cons, List.reverse_nil, fAdd_int, fAdd_lst, fAdd_tup, fAdd_str, fSub_int, fSub_bl, fMul_int, fMul_lst, fDiv_int, fMod_int, fPow_int, fShl_int, fLt_int, fLe_int, fGt_int, fGe_int, fEq_int, fEq_str, fEq_bl, fEq_tup, fEq_lst, fEq_tn, fEq_nt, fEq_nn, fEq_it, fEq_ti, fEq_in, fEq_ni, fNe_in, fNe_ni, fNe_int, fNe_str, fNe_bl, fNe_tup, fNe_lst, fNe_tn, fNe_nt, fNe_nn, fInS_lst, fInS_tup, fNotInS_lst, fNotInS_tup, zip2_lst, zip2_tup, zipD_nil, zipD_cons, enD, noL_int, noL_bl, noL_str, noL_non, noL_tup, noLL_nil, noLL_cons, fIx_tup, fIx_lst, fIx_scr, ixR_some, it_tup, it_lst, cutq_lst, cutq_scr, cutq_tup, fLen_tup, fLen_lst, fLen_scr, fI1_int, fI2_int, fInt_int, fInt_bl, fSqrt_isq, fDivmod_int, fAll_lst, fAny_lst, fSum_lst, blR_some, nuR_some, fTuple_lst, fTuple_tup, fList_lst, fList_tup, fList_scr, fRepr_int, fRepr_bl, fRepr_non, fRepr_tup, fRepr_lst, isTy, isNon_non, isNon_int, isNon_bl, isNon_str, isNon_tup, isNon_lst, eqD_int, eqD_str, eqD_bl, eqD_nn, eqD_ni, eqD_in, eqD_nt, eqD_tn, eqD_tup, eqD_lst, eqDL_nil, eqDL_nc, eqDL_cn, eqDL_cons, List.any_cons, List.any_nil, List.length_cons, List.length_nil, List.cons_append, List.nil_append, List.getElem?_cons_zero, List.getElem?_cons_succ, List.set_cons_zero, List.set_cons_succ, Option.map_some, Nat.reduceAdd, Nat.reduceSub, atI_lit, ixN_lit, atI_m1, Nat.reduceLT, reduceIte, Nat.reduceLeDiff, true_and, and_true, List.append_nil, List.map_cons, List.map_nil, Bool.not_eq_true', Int.cast_ofNat_Int, Int.reduceLT, Int.reduceLE, decide_true, decide_false, Bool.false_eq_true, Bool.not_true, Bool.not_false, cut_none, cut_to, cut_from, cut_fromto, List.take_succ_cons, List.take_zero, List.drop_succ_cons, List.drop_zero, List.take_nil, List.drop_nil, bls_nil, bls_cons, nums_nil, nums_cons, all_nil', all_cons', any_nil', any_cons', Bool.and_true, Bool.true_and, Bool.or_false, Bool.false_or, Bool.and_false, Bool.false_and, Bool.true_or, Bool.or_true, Int.reduceToNat, Int.reduceAdd, Int.reduceSub, Int.reduceMul, Int.reduceMod, Int.reduceNeg, Int.reducePow, Int.reduceEq, Int.reduceNe, Int.one_mul, Int.neg_mul, ne_eq, not_true_eq_false, not_false_eq_true, repD_succ, repD_zero, Nat.reduceMul, Bool.not_not, eq_self, and_self, false_implies, true_implies, implies_true, Nat.reduceEqDiff, intsL]); try rewrite [callS_eq])
local macro_rules | `(tactic| walk_at "wkn") => `(tactic| (try simp (maxSteps := 2000000) (dsimp := false) (implicitDefEqProofs := false) only [↓h_var, ↓h_c, ↓h_op, ↓h_neg, ↓h_isN, ↓h_notN, ↓h_tst, ↓h_and, ↓h_or, ↓h_not, ↓h_andV, ↓h_orV, ↓h_notV, ↓h_if, ↓h_anil, ↓h_acons, ↓h_atank, ↓h_astar, ↓h_tup, ↓h_lst, ↓h_call, ↓h_callT, ↓h_callP, ↓h_aApp, ↓h_blt, ↓h_psome, ↓h_slq, ↓h_rev, ↓h_dct0, ↓h_dct1, ↓h_dctIx, ↓h_isi, ↓h_iQ, ↓h_iR1, ↓h_iR2, ↓h_iR3, ↓h_iZA, ↓h_iEn, ↓h_seq, ↓h_ret, ↓h_expr, ↓h_sif, ↓h_asg, ↓h_gN, ↓h_gsnil, ↓h_gscons, ↓h_gTL, ↓h_gT, ↓h_par, ↓h_par3, ↓h_parO, ↓h_parF, ↓h_parC, ↓h_par3C, ↓h_own, ↓h_ownC, ↓h_frz, ↓h_frq, ↓h_app, ↓h_view, ↓h_viewT, ↓h_gOs, ↓h_for, ↓h_lc, ↓h_lcO, ↓h_yes, ↓oF_pd, ↓orVK_t, ↓andVK_f, ↓orK_t, ↓andK_f, varK_go, iteB_t, iteB_f, iteB_not, iteB_tt, setE_go, pdK_c, pdK_t, negK_go, bolK_go, tstK_go, andK_t, andK_f, andK_p, andK_q, orK_t, orK_f, orK_p, orK_q, andVK_t, andVK_f, andVK_p, andVK_q, orVK_t, orVK_f, orVK_p, orVK_q, notVK_go, tnkK_go, sqK_go, vals_val, vals_nil, callN_go, callP_go, lstK_go, opK_go, intK_go, blqK_go, r1K_go, r2K_go, r3K_go, zpK_go, parK_go, parK3_go, ownK_o, ownK_v, ownK_n, natK_go, forK_nil, lcK_nil, enK_go, h_cN, h_cT, setAll_nil, setAll_cons, wipe_nil, wipe_cons, okN_t, okN_non, okN_int, okN_bl, okN_tup, okN_lst, okL_nil, okL_cons, fSortT_lst, stR_some, fSortS_lst, stS_some, fLtU_int, fLtU_tup, ltR_some, tups_nil, tups_c, tpC_some, fBitL_int, permL_n, permL_c, pmC_s, fMaxL_lst, mxR_some, isTy_dct, isNon_dct, fIs_bl, fIsn_bl, bIs_t, bIs_f, bIs_s, rev_lst, rev_tup, rev_scr, List.reverse_cons, List.reverse_nil, fAdd_int, fAdd_lst, fAdd_tup, fAdd_str, fSub_int, fSub_bl, fMul_int, fMul_lst, fDiv_int, fMod_int, fPow_int, fShl_int, fLt_int, fLe_int, fGt_int, fGe_int, fEq_int, fEq_str, fEq_bl, fEq_tup, fEq_lst, fEq_tn, fEq_nt, fEq_nn, fEq_it, fEq_ti, fEq_in, fEq_ni, fNe_in, fNe_ni, fNe_int, fNe_str, fNe_bl, fNe_tup, fNe_lst, fNe_tn, fNe_nt, fNe_nn, fInS_lst, fInS_tup, fNotInS_lst, fNotInS_tup, zip2_lst, zip2_tup, zipD_nil, zipD_cons, enD, noL_int, noL_bl, noL_str, noL_non, noL_tup, noLL_nil, noLL_cons, fIx_tup, fIx_lst, fIx_scr, ixR_some, it_tup, it_lst, cutq_lst, cutq_scr, cutq_tup, fLen_tup, fLen_lst, fLen_scr, fI1_int, fI2_int, fInt_int, fInt_bl, fSqrt_isq, fDivmod_int, fAll_lst, fAny_lst, fSum_lst, blR_some, nuR_some, fTuple_lst, fTuple_tup, fList_lst, fList_tup, fList_scr, fRepr_int, fRepr_bl, fRepr_non, fRepr_tup, fRepr_lst, isTy, isNon_non, isNon_int, isNon_bl, isNon_str, isNon_tup, isNon_lst, eqD_int, eqD_str, eqD_bl, eqD_nn, eqD_ni, eqD_in, eqD_nt, eqD_tn, eqD_tup, eqD_lst, eqDL_nil, eqDL_nc, eqDL_cn, eqDL_cons, List.any_cons, List.any_nil, List.length_cons, List.length_nil, List.cons_append, List.nil_append, List.getElem?_cons_zero, List.getElem?_cons_succ, List.set_cons_zero, List.set_cons_succ, Option.map_some, Nat.reduceAdd, Nat.reduceSub, atI_lit, ixN_lit, atI_m1, Nat.reduceLT, reduceIte, Nat.reduceLeDiff, true_and, and_true, List.append_nil, List.map_cons, List.map_nil, Bool.not_eq_true', Int.cast_ofNat_Int, Int.reduceLT, Int.reduceLE, decide_true, decide_false, Bool.false_eq_true, Bool.not_true, Bool.not_false, cut_none, cut_to, cut_from, cut_fromto, List.take_succ_cons, List.take_zero, List.drop_succ_cons, List.drop_zero, List.take_nil, List.drop_nil, bls_nil, bls_cons, nums_nil, nums_cons, all_nil', all_cons', any_nil', any_cons', Bool.and_true, Bool.true_and, Bool.or_false, Bool.false_or, Bool.and_false, Bool.false_and, Bool.true_or, Bool.or_true, Int.reduceToNat, Int.reduceAdd, Int.reduceSub, Int.reduceMul, Int.reduceMod, Int.reduceNeg, Int.reducePow, Int.reduceEq, Int.reduceNe, Int.one_mul, Int.neg_mul, ne_eq, not_true_eq_false, not_false_eq_true, repD_succ, repD_zero, Nat.reduceMul, Bool.not_not, eq_self, and_self, false_implies, true_implies, implies_true, Nat.reduceEqDiff]); try rewrite [callS_eq])

def TkOk (T : Tk) : Prop := ∃ a b c, T = [.int a, .int b, .int c] ∧ 0 ≤ a ∧ 0 ≤ b
set_option exponentiation.threshold 20000
theorem lit_mul {i j : Int} (h : i.natAbs < 2 ^ 64) : MulOk i j := .inl (.inl h)
theorem lit_mul' {i j : Int} (h : j.natAbs < 2 ^ 64) : MulOk i j := .inl (.inr h)
theorem lit_div {i j : Int} (h : 0 < j) (q : j.natAbs < 2 ^ 64) : DivOk i j := ⟨h, Nat.lt_of_lt_of_le q (Nat.pow_le_pow_right (by decide) (by decide))⟩
theorem lit_dm {i j : Int} (h : 0 < j) (q : j.natAbs < 2 ^ 64) : DmOk i j := ⟨h, Nat.lt_of_lt_of_le q (Nat.pow_le_pow_right (by decide) (by decide))⟩
theorem mul_self_nonneg' (a : Int) : 0 ≤ a * a := by
  rcases Int.le_total 0 a with h | h
  · exact Int.mul_nonneg h h
  · exact Int.mul_nonneg_of_nonpos_of_nonpos h h
theorem imul_self_pos {a : Int} (h : a ≠ 0) : 0 < a * a := by
  rcases Int.lt_or_gt_of_ne h with q | q
  · exact Int.mul_pos_of_neg_of_neg q q
  · exact Int.mul_pos q q
theorem lite_lst {xs : List D} (h : D.liteL xs) : (D.lst xs).lite := by simpa only [D.lite] using h
theorem lite_tup {xs : List D} (h : D.liteL xs) : (D.tup xs).lite := by simpa only [D.lite] using h
theorem liteL_nil : D.liteL [] := by simp only [D.liteL]
theorem liteL_cons {x : D} {xs : List D} (h : x.lite) (q : D.liteL xs) : D.liteL (x :: xs) := by simp only [D.liteL]; exact ⟨h, q⟩
abbrev Cx2 := Int × Int
def Cz (n : Nat) (z : Cx2) : Prop := Sz n z.1 ∧ Sz n z.2
def cadd (z w : Cx2) : Cx2 := (z.1 + w.1, z.2 + w.2)
def csub (z w : Cx2) : Cx2 := (z.1 - w.1, z.2 - w.2)
def cmul (z w : Cx2) : Cx2 := (z.1 * w.1 - z.2 * w.2, z.1 * w.2 + z.2 * w.1)
def cconj (z : Cx2) : Cx2 := (z.1, -z.2)
def cnrm (z : Cx2) : Int := z.1 * z.1 + z.2 * z.2
theorem Cz.mono {m n : Nat} {z : Cx2} (h : Cz m z) (l : m ≤ n) : Cz n z := ⟨h.1.mono l, h.2.mono l⟩
theorem Cz.add {n : Nat} {z w : Cx2} (h : Cz n z) (q : Cz n w) : Cz (n + 1) (cadd z w) := ⟨by simpa [cadd] using h.1.add q.1, by simpa [cadd] using h.2.add q.2⟩
theorem Cz.sub {n : Nat} {z w : Cx2} (h : Cz n z) (q : Cz n w) : Cz (n + 1) (csub z w) := ⟨by simpa [csub] using h.1.sub q.1, by simpa [csub] using h.2.sub q.2⟩
theorem Cz.mul {m n : Nat} {z w : Cx2} (h : Cz m z) (q : Cz n w) : Cz (m + n + 1) (cmul z w) := ⟨by simpa [cmul] using (h.1.mul q.1).sub (h.2.mul q.2), by simpa [cmul] using (h.1.mul q.2).add (h.2.mul q.1)⟩
theorem Cz.conj {n : Nat} {z : Cx2} (h : Cz n z) : Cz n (cconj z) := ⟨h.1, h.2.neg⟩
theorem Cz.nrm {n : Nat} {z : Cx2} (h : Cz n z) : Sz (n + n + 1) (cnrm z) := by simpa [cnrm] using (h.1.mul h.1).add (h.2.mul h.2)
theorem lite_cx {n : Nat} {a b : Int} (h : Cz n (a, b)) (l : n ≤ 1900) : (D.tup [.int a, .int b]).lite := lite_tup (liteL_cons (h.1.lite l) (liteL_cons (h.2.lite l) liteL_nil))
theorem w__law_draw {T : Tk} {m : Int} {k : KD} (hT : TkOk T) (h0 : 0 < m) (h1 : m.natAbs < 2 ^ 64) (h : ∀ r T', 0 ≤ r → r < m → TkOk T' → k (.int r) T') : sm__law_draw [.tank, .val (.int m)] T k := by
  obtain ⟨a, b, c, rfl, ha, hb⟩ := hT
  rw [e__law_draw, b__law_draw]
  walk_at "ev"
  split
  · exact ⟨lit_dm h0 h1, h _ _ (Int.emod_nonneg _ (by omega)) (Int.emod_lt_of_pos _ h0) ⟨_, _, _, rfl, Int.ediv_nonneg ha (by omega), hb⟩⟩
  · refine ⟨lit_mul' (by omega), lit_mul (by decide), lit_div (by decide) (by decide), h0, h _ _ (Int.emod_nonneg _ (by omega)) (Int.emod_lt_of_pos _ h0) ⟨_, _, _, rfl, ha, Int.emod_nonneg _ (by decide)⟩⟩
theorem w__law_pick {T : Tk} {xs : List D} {k : KD} (hT : TkOk T) (h0 : xs ≠ []) (h1 : xs.length < 1000000) (h : ∀ x T', x ∈ xs → TkOk T' → k x T') : sm__law_pick [.tank, .val (.tup xs)] T k := by
  rw [e__law_pick, b__law_pick]
  walk_at "ev"
  have hl : 0 < xs.length := List.length_pos_iff.mpr h0
  refine w__law_draw hT (by omega) (by omega) fun r T' h2 h3 hT' => ?_
  obtain ⟨n, rfl⟩ := Int.eq_ofNat_of_zero_le h2
  have hn : n < xs.length := by omega
  walk_at "ev"
  simp only [atI_nat', List.getElem?_eq_getElem hn, ixR_some]
  exact ⟨trivial, h _ _ (List.getElem_mem hn) hT'⟩
theorem w__law_number {T : Tk} {k : KD} (hT : TkOk T) (h : ∀ r T', Sz 40 r → TkOk T' → k (.int r) T') : sm__law_number [.tank] T k := by
  rw [e__law_number, b__law_number]
  walk_at "ev"
  refine w__law_pick hT (by simp) (by simp) fun x T1 hx hT1 => ?_
  have hx' : ∃ s : Int, x = .int s ∧ 0 ≤ s ∧ s ≤ 99 := by
    simp only [List.mem_cons, List.not_mem_nil, or_false] at hx
    rcases hx with rfl | rfl | rfl | rfl | rfl | rfl | rfl <;> exact ⟨_, rfl, by decide, by decide⟩
  obtain ⟨s, rfl, s0, s1⟩ := hx'
  walk_at "ev"
  split
  · refine ⟨lit_mul (by decide), w__law_draw hT1 (by omega) (by omega) fun r T2 h2 h3 hT2 => ?_⟩
    walk_at "ev"
    refine h _ _ ?_ hT2
    unfold Sz
    omega
  · refine w__law_draw hT1 (by decide) (by decide) fun r1 T2 h2 h3 hT2 => ?_
    walk_at "ev"
    refine ⟨lit_mul' (by decide), w__law_draw hT2 (by decide) (by decide) fun r2 T3 h4 h5 hT3 => ?_⟩
    walk_at "ev"
    refine w__law_draw hT3 (by decide) (by decide) fun r3 T4 h6 h7 hT4 => ?_
    walk_at "ev"
    refine ⟨lit_mul (by decide), lit_mul' (by omega), h _ _ ?_ hT4⟩
    have : r3 = 0 ∨ r3 = 1 := by omega
    unfold Sz
    rcases this with rfl | rfl <;> omega

theorem w__law_rounds {T : Tk} {xs : List D} {k : KD} (h : ∀ r : Int, r = 2 ∨ r = 3 → k (.int r) T) : sm__law_rounds [.val (.scr xs)] T k := by
  rw [e__law_rounds, b__law_rounds]
  walk_at "ev"
  refine h _ ?_
  unfold iMax iMin
  split <;> split at * <;> omega
theorem w_tank_loop {F : En → Tk → Prop} {A B : Option SV} {T : Tk} : ∀ (ns : List Int) (s : Int) (c : Option SV), 0 ≤ s → (∀ s' c', 0 ≤ s' → F [A, B, some (.val (.int s')), c', none, none] T) →
    forL (gN 3) (sAsg (dOp (oF fMod) (dBlt (oG fInt) (aCons (dOp (oF fAdd) (dOp (oF fAdd) (dOp (oF fMul) (dVar 2) (dC (.int 51977))) (dOp (oF fMod) (dBlt (oG fInt) (aCons (dVar 3) (aNil))) (dC (.int 2147483629)))) (dC (.int 37))) (aNil))) (dC (.int 2147483629))) (gN 2)) { no0 with nx := F } (ns.map D.int) [A, B, some (.val (.int s)), c, none, none] T
  | [], s, c, h0, h => h s c h0
  | n :: ns, s, c, h0, h => by
    rw [List.map_cons]
    walk_at "ev"
    exact ⟨lit_mul' (by decide), w_tank_loop ns _ _ (Int.emod_nonneg _ (by decide)) h⟩
theorem w__law_tank {ns : List Int} {i : Int} {k : KD} (hi : 0 ≤ i) (h : ∀ T, TkOk T → k (.lst T) []) : sm__law_tank [.val (scrD ns), .val (.int i)] [] k := by
  rw [e__law_tank, b__law_tank, scrD]
  walk_at "ev"
  refine ⟨lit_mul (by decide), ?_, ?_⟩
  · have := List.length_take_le 9 (ns.map D.int); omega
  rw [← List.map_take]
  refine w_tank_loop _ _ _ (by omega) fun s c hs => ?_
  have hk : ∀ o : Int, (∀ p : Int, 0 ≤ p → k (.lst [.int p, .int ((s * 33013 + o % 2147483629 * 7001 + 3) % 2147483629), .int 0]) []) := fun o p hp => h _ ⟨_, _, _, rfl, hp, Int.emod_nonneg _ (by decide)⟩
  walk_at "ev"
  have hp : ∀ o : Int, 0 ≤ iAbs o := fun o => by unfold iAbs; split <;> omega
  have fin : ∀ o : Int, (if o < 0 then MulOk s 33013 ∧ MulOk (o % 2147483629) 7001 ∧ k (.lst [.int (iAbs o), .int ((s * 33013 + o % 2147483629 * 7001 + 3) % 2147483629), .int 0]) []
      else CPow 10 18 ∧ if 10 ^ Int.toNat 18 ≤ o then MulOk s 33013 ∧ MulOk (o % 2147483629) 7001 ∧ k (.lst [.int (iAbs o), .int ((s * 33013 + o % 2147483629 * 7001 + 3) % 2147483629), .int 0]) []
      else MulOk s 33013 ∧ MulOk (o % 2147483629) 7001 ∧ k (.lst [.int 0, .int ((s * 33013 + o % 2147483629 * 7001 + 3) % 2147483629), .int 0]) []) := by
    intro o
    have m1 : MulOk s 33013 := lit_mul' (by decide)
    have m2 : MulOk (o % 2147483629) 7001 := lit_mul' (by decide)
    split
    · exact ⟨m1, m2, hk o _ (by omega)⟩
    refine ⟨by unfold CPow; decide, ?_⟩
    split
    · exact ⟨m1, m2, hk o _ (by omega)⟩
    · exact ⟨m1, m2, hk o _ (Int.le_refl _)⟩
  split
  · rename_i hl
    obtain ⟨n, rfl⟩ := Int.eq_ofNat_of_zero_le hi
    rw [atI_nat', List.getElem?_map, List.getElem?_eq_getElem (by simpa using hl)]
    walk_at "ev"
    exact fin _
  · walk_at "ev"
    exact fin _

theorem w_is_whole {T : Tk} {i : Int} {k : KD} (h : k (.bl true) T) : sm_is_whole [.val (.int i)] T k := by
  rw [e_is_whole, b_is_whole]
  walk_at "ev"
  exact h
theorem w_are_wholes_2 {T : Tk} {i j : Int} {k : KD} (h : k (.bl true) T) : sm_are_wholes [.val (.tup [.int i, .int j]), .val (.int 2)] T k := by
  rw [e_are_wholes, b_are_wholes]
  walk_at "ev"
  refine w_is_whole (w_is_whole ?_)
  walk_at "ev"
  exact h
theorem w_is_complex {T : Tk} {a b : Int} {k : KD} (h : k (.bl true) T) : sm_is_complex [.val (.tup [.int a, .int b])] T k := by
  rw [e_is_complex, b_is_complex]
  walk_at "ev"
  exact w_are_wholes_2 h
theorem w_check_complex {T : Tk} {a b : Int} {k : KD} (h : k .non T) : sm_check_complex [.val (.tup [.int a, .int b])] T k := by
  rw [e_check_complex, b_check_complex]
  walk_at "ev"
  refine w_is_complex ?_
  walk_at "ev"
  exact h
theorem w_minus {T : Tk} {a b c d : Int} {k : KD} (h : k (.tup [.int (a - c), .int (b - d)]) T) : sm_minus [.val (.tup [.int a, .int b]), .val (.tup [.int c, .int d])] T k := by
  rw [e_minus, b_minus]
  walk_at "ev"
  exact h
theorem w_times {T : Tk} {a b c d : Int} {k : KD} (hz : Cz 100000 (a, b)) (hw : Cz 100000 (c, d)) (h : ∀ p, p = cmul (a, b) (c, d) → k (.tup [.int p.1, .int p.2]) T) : sm_times [.val (.tup [.int a, .int b]), .val (.tup [.int c, .int d])] T k := by
  rw [e_times, b_times]
  walk_at "ev"
  exact ⟨hz.1.mulOk hw.1 (by decide) (by decide), hz.2.mulOk hw.2 (by decide) (by decide), hz.1.mulOk hw.2 (by decide) (by decide), hz.2.mulOk hw.1 (by decide) (by decide), h _ rfl⟩
theorem w_turned_over {T : Tk} {a b : Int} {k : KD} (h : k (.tup [.int a, .int (-b)]) T) : sm_turned_over [.val (.tup [.int a, .int b])] T k := by
  rw [e_turned_over, b_turned_over]
  walk_at "ev"
  exact h
theorem w_square_size {T : Tk} {a b : Int} {k : KD} (hz : Cz 100000 (a, b)) (h : k (.int (cnrm (a, b))) T) : sm_square_size [.val (.tup [.int a, .int b])] T k := by
  rw [e_square_size, b_square_size]
  walk_at "ev"
  exact ⟨hz.1.mulOk hz.1 (by decide) (by decide), hz.2.mulOk hz.2 (by decide) (by decide), h⟩
def cunit (z : Cx2) : Cx2 := if 0 < z.1 ∧ 0 ≤ z.2 then (1, 0) else if 0 < -z.2 ∧ 0 ≤ z.1 then (0, 1) else if 0 < -z.1 ∧ 0 ≤ -z.2 then (-1, 0) else (0, -1)
theorem cz_unit {N : Nat} (hN : 1 ≤ N) {a b : Int} (ha : -1 ≤ a ∧ a ≤ 1) (hb : -1 ≤ b ∧ b ≤ 1) : Cz N (a, b) := by
  have t : (2 : Nat) ^ 1 ≤ 2 ^ N := Nat.pow_le_pow_right (by decide) hN
  constructor
  · show a.natAbs < 2 ^ N; omega
  · show b.natAbs < 2 ^ N; omega
theorem w_unit_for {T : Tk} {a b : Int} {k : KD} (hz : Cz 100000 (a, b)) (h : ∀ p, p = cunit (a, b) → k (.tup [.int p.1, .int p.2]) T) : sm_unit_for [.val (.tup [.int a, .int b])] T k := by
  rw [e_unit_for, b_unit_for, k_UNITS]
  walk_at "ev"
  have h1 : cmul (a, b) (1, 0) = (a, b) := by simp [cmul]
  have h2 : cmul (a, b) (0, 1) = (-b, a) := by simp [cmul]
  have h3 : cmul (a, b) (-1, 0) = (-a, -b) := by simp [cmul]
  have h0 := h _ rfl
  unfold cunit at h0
  simp only at h0
  refine w_times hz (cz_unit (by decide) (by decide) (by decide)) ?_
  rintro _ rfl
  rw [h1]
  walk_at "ev"
  split
  · rename_i c1; rw [if_pos c1] at h0; exact h0
  rename_i c1
  rw [if_neg c1] at h0
  refine w_times hz (cz_unit (by decide) (by decide) (by decide)) ?_
  rintro _ rfl
  rw [h2]
  walk_at "ev"
  split
  · rename_i c2; rw [if_pos c2] at h0; exact h0
  rename_i c2
  rw [if_neg c2] at h0
  refine w_times hz (cz_unit (by decide) (by decide) (by decide)) ?_
  rintro _ rfl
  rw [h3]
  walk_at "ev"
  split
  · rename_i c3; rw [if_pos c3] at h0; exact h0
  · rename_i c3; rw [if_neg c3] at h0; exact h0
def cdivd (z w : Cx2) : Option Cx2 := if (cmul z (cconj w)).1 % cnrm w = 0 ∧ (cmul z (cconj w)).2 % cnrm w = 0 then some ((cmul z (cconj w)).1 / cnrm w, (cmul z (cconj w)).2 / cnrm w) else none
def ocx : Option Cx2 → D
  | some z => .tup [.int z.1, .int z.2]
  | none => .non
theorem w_divided {T : Tk} {a b c d : Int} {k : KD} (hz : Cz 4000 (a, b)) (hw : Cz 4000 (c, d)) (h0 : 0 < cnrm (c, d)) (h : k (ocx (cdivd (a, b) (c, d))) T) : sm_divided [.val (.tup [.int a, .int b]), .val (.tup [.int c, .int d])] T k := by
  rw [e_divided, b_divided]
  walk_at "ev"
  refine w_turned_over ?_
  walk_at "ev"
  refine w_times (hz.mono (by decide)) (hw.conj.mono (by decide)) ?_
  rintro p rfl
  walk_at "ev"
  refine w_square_size (hw.mono (by decide)) ?_
  walk_at "ev"
  have hn : Sz 8001 (cnrm (c, d)) := hw.nrm
  unfold cdivd at h
  have e1 : cconj (c, d) = (c, -d) := rfl
  rw [e1] at h
  refine ⟨h0, ?_⟩
  by_cases q1 : (cmul (a, b) (c, -d)).1 % cnrm (c, d) = 0
  · rw [if_neg (not_not_intro q1)]
    refine ⟨h0, ?_⟩
    by_cases q2 : (cmul (a, b) (c, -d)).2 % cnrm (c, d) = 0
    · rw [if_neg (not_not_intro q2)]
      rw [if_pos ⟨q1, q2⟩] at h
      exact ⟨hn.divOk (by decide) h0, hn.divOk (by decide) h0, h⟩
    · rw [if_pos q2]
      rw [if_neg fun e => q2 e.2] at h
      exact h
  · rw [if_pos q1]
    rw [if_neg fun e => q1 e.1] at h
    exact h
theorem cnrm_pos {w : Cx2} (h : ¬(w.1 = 0 ∧ w.2 = 0)) : 0 < cnrm w := by
  unfold cnrm
  have h1 : 0 ≤ w.1 * w.1 := mul_self_nonneg' w.1
  have h2 : 0 ≤ w.2 * w.2 := mul_self_nonneg' w.2
  by_cases q : w.1 = 0
  · have : w.2 ≠ 0 := fun e => h ⟨q, e⟩
    have := imul_self_pos this
    omega
  · have := imul_self_pos q
    omega
theorem w__law_less {T : Tk} {a b c d : Int} {k : KD} (h : ∀ p, p = csub (a, b) (c, d) → k (.tup [.int p.1, .int p.2]) T) : sm__law_less [.val (.tup [.int a, .int b]), .val (.tup [.int c, .int d])] T k := by
  rw [e__law_less, b__law_less]
  walk_at "ev"
  exact h _ rfl
theorem w__law_times {T : Tk} {a b c d : Int} {k : KD} (hz : Cz 100000 (a, b)) (hw : Cz 100000 (c, d)) (h : ∀ p, p = cmul (a, b) (c, d) → k (.tup [.int p.1, .int p.2]) T) : sm__law_times [.val (.tup [.int a, .int b]), .val (.tup [.int c, .int d])] T k := by
  rw [e__law_times, b__law_times]
  walk_at "ev"
  exact ⟨hz.1.mulOk hw.1 (by decide) (by decide), hz.2.mulOk hw.2 (by decide) (by decide), hz.1.mulOk hw.2 (by decide) (by decide), hz.2.mulOk hw.1 (by decide) (by decide), h _ rfl⟩
theorem w__law_star {T : Tk} {a b : Int} {k : KD} (h : k (.tup [.int a, .int (-b)]) T) : sm__law_star [.val (.tup [.int a, .int b])] T k := by
  rw [e__law_star, b__law_star]
  walk_at "ev"
  rw [Int.zero_sub]
  exact h
theorem w__law_size {T : Tk} {a b : Int} {k : KD} (hz : Cz 100000 (a, b)) (h : k (.int (cnrm (a, b))) T) : sm__law_size [.val (.tup [.int a, .int b])] T k := by
  rw [e__law_size, b__law_size]
  walk_at "ev"
  exact ⟨hz.1.mulOk hz.1 (by decide) (by decide), hz.2.mulOk hz.2 (by decide) (by decide), h⟩
def gcdL (g : Int) : List Int → Int
  | [] => g | n :: r => gcdL (iGcd g n) r
theorem iGcd_nn (a b : Int) : 0 ≤ iGcd a b := Int.natCast_nonneg _
def lowL (ns : List Int) : List Int := ns.map (· / gcdL 0 ns)
theorem gcdL_scale {c : Int} (hc : 0 ≤ c) : ∀ (ns : List Int) (g : Int), 0 ≤ g → gcdL (c * g) (ns.map (c * ·)) = c * gcdL g ns
  | [], g, _ => rfl
  | n :: r, g, hg => by
    rw [List.map_cons]
    show gcdL (iGcd (c * g) (c * n)) _ = c * gcdL (iGcd g n) r
    have e : iGcd (c * g) (c * n) = c * iGcd g n := by
      show ((Nat.gcd _ _ : Nat) : Int) = c * ((Nat.gcd _ _ : Nat) : Int)
      rw [Int.natAbs_mul, Int.natAbs_mul, Nat.gcd_mul_left]
      rw [Int.natCast_mul]
      congr 1
      omega
    rw [e]
    exact gcdL_scale hc r _ (iGcd_nn _ _)
theorem lowL_scale {c : Int} (hc : 0 < c) (ns : List Int) : lowL (ns.map (c * ·)) = lowL ns := by
  unfold lowL
  have e := gcdL_scale (Int.le_of_lt hc) ns 0 (Int.le_refl _)
  rw [Int.mul_zero] at e
  rw [e, List.map_map]
  apply List.map_congr_left
  intro n _
  show c * n / (c * gcdL 0 ns) = n / gcdL 0 ns
  exact Int.mul_ediv_mul_of_pos _ _ hc
theorem lowL_same {c d : Int} (hc : 0 < c) (hd : 0 < d) {ns ms : List Int} (h : ns.map (c * ·) = ms.map (d * ·)) : lowL ns = lowL ms := by rw [← lowL_scale hc ns, h, lowL_scale hd ms]
theorem lowL_one {ns : List Int} (h : gcdL 0 ns = 1) : lowL ns = ns := by
  unfold lowL
  rw [h]
  conv => rhs; rw [← List.map_id ns]
  apply List.map_congr_left
  intro n _
  exact Int.ediv_one n
theorem gcd_uniq {c d : Int} (hc : 0 < c) (hd : 0 < d) {ns ms : List Int} (h1 : gcdL 0 ns = 1) (h2 : gcdL 0 ms = 1) (h : ns.map (c * ·) = ms.map (d * ·)) : ns = ms := by
  rw [← lowL_one h1, ← lowL_one h2]
  exact lowL_same hc hd h
abbrev P3 := Int × Int × Int
def P3.d (q : P3) : D := .tup [.int q.1, .int q.2.1, .int q.2.2]
/-- a place by its two rational coordinates -/
structure PlQ (n : Nat) (q : P3) (u v : Rat) : Prop where
  pos : 0 < q.2.2
  one : gcdL 0 [q.1, q.2.1, q.2.2] = 1
  s1 : Sz n q.1
  s2 : Sz n q.2.1
  s3 : Sz n q.2.2
  e1 : (q.1 : Rat) = u * (q.2.2 : Rat)
  e2 : (q.2.1 : Rat) = v * (q.2.2 : Rat)
theorem PlQ.mono {m n : Nat} {q : P3} {u v : Rat} (h : PlQ m q u v) (l : m ≤ n) : PlQ n q u v := ⟨h.pos, h.one, h.s1.mono l, h.s2.mono l, h.s3.mono l, h.e1, h.e2⟩
theorem cast_inj {a b : Int} (h : (a : Rat) = (b : Rat)) : a = b := Rat.intCast_inj.mp h
theorem PlQ.uniq {m n : Nat} {p q : P3} {u v : Rat} (h : PlQ m p u v) (h' : PlQ n q u v) : p = q := by
  obtain ⟨a, b, c⟩ := p
  obtain ⟨a', b', c'⟩ := q
  obtain ⟨p1, o1, _, _, _, x1, y1⟩ := h
  obtain ⟨p2, o2, _, _, _, x2, y2⟩ := h'
  simp only at *
  have q1 : c' * a = c * a' := cast_inj (by push_cast; rw [x1, x2]; grind)
  have q2 : c' * b = c * b' := cast_inj (by push_cast; rw [y1, y2]; grind)
  have := gcd_uniq p2 p1 o1 o2 (show [a, b, c].map (c' * ·) = [a', b', c'].map (c * ·) by simp [q1, q2, Int.mul_comm])
  simpa using this
theorem PlQ.ne {n : Nat} {p : P3} {u v : Rat} (h : PlQ n p u v) : (p.2.2 : Rat) ≠ 0 := fun e => by have := cast_inj (b := 0) e; have := h.pos; omega
/-- a fraction by its value -/
structure FrQ (n : Nat) (q : Int × Int) (u : Rat) : Prop where
  pos : 0 < q.2
  one : gcdL 0 [q.1, q.2] = 1
  s1 : Sz n q.1
  s2 : Sz n q.2
  e1 : (q.1 : Rat) = u * (q.2 : Rat)
theorem FrQ.uniq {m n : Nat} {p q : Int × Int} {u : Rat} (h : FrQ m p u) (h' : FrQ n q u) : p = q := by
  obtain ⟨a, c⟩ := p
  obtain ⟨a', c'⟩ := q
  obtain ⟨p1, o1, _, _, x1⟩ := h
  obtain ⟨p2, o2, _, _, x2⟩ := h'
  simp only at *
  have q1 : c' * a = c * a' := cast_inj (by push_cast; rw [x1, x2]; grind)
  have := gcd_uniq p2 p1 o1 o2 (show [a, c].map (c' * ·) = [a', c'].map (c * ·) by simp [q1, Int.mul_comm])
  simpa using this
def fnz : List Int → Int
  | [] => 0
  | x :: r => if x = 0 then fnz r else x
abbrev R4 := Int × Int × Int × Int
def bnd (r : R4) : Int := r.2.1 * r.2.1 + r.2.2.1 * r.2.2.1 - 4 * r.1 * r.2.2.2
structure Rw (n : Nat) (r : R4) : Prop where
  one : gcdL 0 [r.1, r.2.1, r.2.2.1, r.2.2.2] = 1
  bend : 0 < bnd r
  s1 : Sz n r.1
  s2 : Sz n r.2.1
  s3 : Sz n r.2.2.1
  s4 : Sz n r.2.2.2
structure Rd (n : Nat) (r : R4) : Prop extends Rw n r where
  up : 0 < fnz [r.1, r.2.1, r.2.2.1, r.2.2.2]
theorem Rw.mono {m n : Nat} {r : R4} (h : Rw m r) (l : m ≤ n) : Rw n r := ⟨h.one, h.bend, h.s1.mono l, h.s2.mono l, h.s3.mono l, h.s4.mono l⟩
theorem Rd.mono {m n : Nat} {r : R4} (h : Rd m r) (l : m ≤ n) : Rd n r := ⟨h.toRw.mono l, h.up⟩
theorem Rd.pos {n : Nat} {r : R4} (h : Rd n r) (h0 : r.1 ≠ 0) : 0 < r.1 := by
  have := h.up
  unfold fnz at this
  rw [if_neg h0] at this
  exact this
theorem gcdL_neg : ∀ (ns : List Int) (g : Int), gcdL g (ns.map fun x => 0 - x) = gcdL g ns
  | [], g => rfl
  | n :: r, g => by
    rw [List.map_cons]
    show gcdL (iGcd g (0 - n)) _ = gcdL (iGcd g n) r
    have e : iGcd g (0 - n) = iGcd g n := by
      show ((Nat.gcd _ _ : Nat) : Int) = ((Nat.gcd _ _ : Nat) : Int)
      rw [Int.zero_sub, Int.natAbs_neg]
    rw [e]
    exact gcdL_neg r _
theorem Rw.neg {n : Nat} {r : R4} (h : Rw n r) : Rw n (0 - r.1, 0 - r.2.1, 0 - r.2.2.1, 0 - r.2.2.2) := by
  refine ⟨?_, ?_, ?_, ?_, ?_, ?_⟩
  · have := gcdL_neg [r.1, r.2.1, r.2.2.1, r.2.2.2] 0
    rw [h.one] at this
    exact this
  · have := h.bend
    unfold bnd at this ⊢
    simp only
    grind
  · simp only [Int.zero_sub]; exact h.s1.neg
  · simp only [Int.zero_sub]; exact h.s2.neg
  · simp only [Int.zero_sub]; exact h.s3.neg
  · simp only [Int.zero_sub]; exact h.s4.neg
theorem w__law_small {T : Tk} {k : KD} (hT : TkOk T) (h : ∀ r T', Sz 40 r → TkOk T' → k (.int r) T') : sm__law_small [.tank] T k := by
  rw [e__law_small, b__law_small]
  walk_at "ev"
  refine w__law_pick hT (by simp) (by simp) fun x T1 hx hT1 => ?_
  have hx' : ∃ s : Int, x = .int s ∧ 0 ≤ s ∧ s ≤ 99 := by
    simp only [List.mem_cons, List.not_mem_nil, or_false] at hx
    rcases hx with rfl | rfl | rfl | rfl | rfl <;> exact ⟨_, rfl, by decide, by decide⟩
  obtain ⟨s, rfl, s0, s1⟩ := hx'
  walk_at "ev"
  refine ⟨lit_mul (by decide), ?_⟩
  refine w__law_draw hT1 (by omega) (by omega) fun r T2 h2 h3 hT2 => ?_
  walk_at "ev"
  refine h _ _ ?_ hT2
  unfold Sz
  omega
abbrev pD (q : P3) : D := .tup [.int q.1, .int q.2.1, .int q.2.2]
/-- a place, the far one too -/
structure Pt (n : Nat) (q : P3) : Prop where
  ok : (q.1 = 1 ∧ q.2.1 = 0 ∧ q.2.2 = 0) ∨ 0 < q.2.2
  one : gcdL 0 [q.1, q.2.1, q.2.2] = 1
  s1 : Sz n q.1
  s2 : Sz n q.2.1
  s3 : Sz n q.2.2
theorem Pt.mono {m n : Nat} {q : P3} (h : Pt m q) (l : m ≤ n) : Pt n q := ⟨h.ok, h.one, h.s1.mono l, h.s2.mono l, h.s3.mono l⟩
theorem PlQ.pt {n : Nat} {q : P3} {u v : Rat} (h : PlQ n q u v) : Pt n q := ⟨.inr h.pos, h.one, h.s1, h.s2, h.s3⟩
theorem Pt.far {n : Nat} {q : P3} (h : Pt n q) (e : q.2.2 = 0) : q = (1, 0, 0) := by
  obtain ⟨a, b, c⟩ := q
  rcases h.ok with ⟨e1, e2, e3⟩ | e1
  · simp only at e1 e2 e3; subst e1 e2 e3; rfl
  · simp only at e e1; omega
theorem Pt.nn {n : Nat} {q : P3} (h : Pt n q) : 0 ≤ q.2.2 := by rcases h.ok with ⟨_, _, e3⟩ | e1 <;> omega
/-- the square of how far apart, times what is below -/
def dd (p q : P3) : Int := (p.1 * q.2.2 - q.1 * p.2.2) * (p.1 * q.2.2 - q.1 * p.2.2) + (p.2.1 * q.2.2 - q.2.1 * p.2.2) * (p.2.1 * q.2.2 - q.2.1 * p.2.2)
theorem two_sq {a b : Int} (h : a * a + b * b = 0) : a = 0 ∧ b = 0 := by
  have h1 := mul_self_nonneg' a
  have h2 := mul_self_nonneg' b
  constructor
  · by_cases c : a = 0
    · exact c
    · have := imul_self_pos c; omega
  · by_cases c : b = 0
    · exact c
    · have := imul_self_pos c; omega
theorem dd_zero {m n : Nat} {p q : P3} (hp : Pt m p) (hq : Pt n q) (h : dd p q = 0) : p = q := by
  obtain ⟨e1, e2⟩ := two_sq h
  by_cases z : p.2.2 = 0
  · have f := hp.far z
    subst f
    simp only [Int.one_mul, Int.mul_zero, Int.sub_zero] at e1
    exact (hq.far e1).symm
  by_cases z' : q.2.2 = 0
  · have f := hq.far z'
    subst f
    simp only [Int.one_mul, Int.mul_zero, Int.zero_sub] at e1
    exact absurd (by omega) z
  have p1 : 0 < p.2.2 := by have := hp.nn; omega
  have p2 : 0 < q.2.2 := by have := hq.nn; omega
  have o1 := hp.one
  have o2 := hq.one
  obtain ⟨a, b, c⟩ := p
  obtain ⟨a', b', c'⟩ := q
  simp only at *
  have := gcd_uniq p2 p1 o1 o2 (show [a, b, c].map (c' * ·) = [a', b', c'].map (c * ·) by
    simp only [List.map_cons, List.map_nil, List.cons.injEq, and_true]
    refine ⟨?_, ?_, Int.mul_comm _ _⟩
    · rw [Int.mul_comm c' a, Int.mul_comm c a']; omega
    · rw [Int.mul_comm c' b, Int.mul_comm c b']; omega)
  simpa using this
theorem TkOk.noL {T : Tk} (h : TkOk T) : D.noLL T := by
  obtain ⟨a, b, c, rfl, _⟩ := h
  simp only [D.noLL, D.noL, and_self]
theorem ok_pDs_aux : ∀ ps : List P3, D.isPyL (ps.map pD) = true ∧ PyData.canLayAll0 (D.pyL (ps.map pD)) = true ∧ PyData.depthAll (D.pyL (ps.map pD)) ≤ 1
  | [] => ⟨rfl, rfl, by simp [D.pyL, PyData.depthAll]⟩
  | p :: ps => by
    have ⟨h1, h2, h3⟩ := ok_pDs_aux ps
    refine ⟨?_, ?_, ?_⟩
    · simp only [List.map_cons, D.isPyL, pD, D.isPy, h1, Bool.and_self]
    · simp only [List.map_cons, D.pyL, pD, D.py, PyData.canLayAll0, PyData.canLay0, h2, Bool.and_self]
    · simp only [List.map_cons, D.pyL, pD, D.py, PyData.depthAll, PyData.depth]; omega
theorem ok_pDs (ps : List P3) : (D.lst (ps.map pD)).eqOk := by
  have ⟨h1, h2, h3⟩ := ok_pDs_aux ps
  refine ⟨by simpa only [D.isPy] using h1, ?_⟩
  unfold SeqAt.shaped
  simp only [D.py, PyData.canLay0, h2, Bool.true_and, PyData.depth]
  simp; omega
/-- rounds that are multiples of one another are the same -/
theorem rd_uniq {m n : Nat} {r r' : R4} (h : Rd m r) (h' : Rd n r') {g g' : Int} (g0 : g ≠ 0) (g0' : g' ≠ 0) (e1 : g * r.1 = g' * r'.1) (e2 : g * r.2.1 = g' * r'.2.1) (e3 : g * r.2.2.1 = g' * r'.2.2.1) (e4 : g * r.2.2.2 = g' * r'.2.2.2) : r = r' := by
  have fz : ∀ (c : Int) (ns : List Int), c ≠ 0 → fnz (ns.map (c * ·)) = c * fnz ns := fun c ns hc => by
    induction ns with
    | nil => simp [fnz]
    | cons x xs ih =>
      rw [List.map_cons]
      unfold fnz
      by_cases q : x = 0
      · rw [if_pos q, if_pos (by rw [q, Int.mul_zero])]; exact ih
      · rw [if_neg q, if_neg (Int.mul_ne_zero hc q)]
  have e : [r.1, r.2.1, r.2.2.1, r.2.2.2].map (g * ·) = [r'.1, r'.2.1, r'.2.2.1, r'.2.2.2].map (g' * ·) := by simp only [List.map_cons, List.map_nil, e1, e2, e3, e4]
  have f := fz g [r.1, r.2.1, r.2.2.1, r.2.2.2] g0
  rw [e, fz g' _ g0'] at f
  have u := h.up
  have u' := h'.up
  have key : ∀ {a b : Int}, 0 < a → 0 < b → a * r.1 = b * r'.1 → a * r.2.1 = b * r'.2.1 → a * r.2.2.1 = b * r'.2.2.1 → a * r.2.2.2 = b * r'.2.2.2 → r = r' := fun {a b} ha hb q1 q2 q3 q4 => by
    have := gcd_uniq ha hb h.one h'.one (show [r.1, r.2.1, r.2.2.1, r.2.2.2].map (a * ·) = [r'.1, r'.2.1, r'.2.2.1, r'.2.2.2].map (b * ·) by simp only [List.map_cons, List.map_nil, q1, q2, q3, q4])
    obtain ⟨_, _, _, _⟩ := r
    obtain ⟨_, _, _, _⟩ := r'
    simpa using this
  rcases Int.lt_or_gt_of_ne g0 with c | c
  · have c' : g' < 0 := by
      rcases Int.lt_or_gt_of_ne g0' with d | d
      · exact d
      · have := Int.mul_pos d u'; have := Int.mul_neg_of_neg_of_pos c u; omega
    exact key (a := -g) (b := -g') (by omega) (by omega) (by rw [Int.neg_mul, Int.neg_mul, e1]) (by rw [Int.neg_mul, Int.neg_mul, e2]) (by rw [Int.neg_mul, Int.neg_mul, e3]) (by rw [Int.neg_mul, Int.neg_mul, e4])
  · have c' : 0 < g' := by
      rcases Int.lt_or_gt_of_ne g0' with d | d
      · have := Int.mul_neg_of_neg_of_pos d u'; have := Int.mul_pos c u; omega
      · exact d
    exact key c c' e1 e2 e3 e4
def w4 (p : P3) : R4 := (p.1 * p.1 + p.2.1 * p.2.1, p.1 * p.2.2, p.2.1 * p.2.2, p.2.2 * p.2.2)
def mnr (a b c d : Int) : Int := a * d - b * c
def dt3 (a b c d e f g h i : Int) : Int := a * mnr e f h i - b * mnr d f g i + c * mnr d e g h
def cr4 (x y z : R4) : R4 := (dt3 x.2.1 x.2.2.1 x.2.2.2 y.2.1 y.2.2.1 y.2.2.2 z.2.1 z.2.2.1 z.2.2.2, -dt3 x.1 x.2.2.1 x.2.2.2 y.1 y.2.2.1 y.2.2.2 z.1 z.2.2.1 z.2.2.2,
  dt3 x.1 x.2.1 x.2.2.2 y.1 y.2.1 y.2.2.2 z.1 z.2.1 z.2.2.2, -dt3 x.1 x.2.1 x.2.2.1 y.1 y.2.1 y.2.2.1 z.1 z.2.1 z.2.2.1)
structure S4 (n : Nat) (r : R4) : Prop where
  s1 : Sz n r.1
  s2 : Sz n r.2.1
  s3 : Sz n r.2.2.1
  s4 : Sz n r.2.2.2
/-- the round through three places -/
structure Thr (r : R4) (p q s : P3) : Prop where
  ex : ∃ g : Int, g ≠ 0 ∧ (cr4 (w4 p) (w4 q) (w4 s)).1 = g * r.1 ∧ (cr4 (w4 p) (w4 q) (w4 s)).2.1 = g * r.2.1 ∧ (cr4 (w4 p) (w4 q) (w4 s)).2.2.1 = g * r.2.2.1 ∧ (cr4 (w4 p) (w4 q) (w4 s)).2.2.2 = g * r.2.2.2
theorem Thr.uniq {m n : Nat} {r r' : R4} {p q s : P3} (h : Thr r p q s) (h' : Thr r' p q s) (hr : Rd m r) (hr' : Rd n r') : r = r' := by
  obtain ⟨g, g0, e1, e2, e3, e4⟩ := h.ex
  obtain ⟨g', g0', f1, f2, f3, f4⟩ := h'.ex
  exact rd_uniq hr hr' g0 g0' (e1.symm.trans f1) (e2.symm.trans f2) (e3.symm.trans f3) (e4.symm.trans f4)
theorem Thr.line {r : R4} {p q s : P3} (h : Thr r p q s) : r.1 = 0 ↔ p.2.2 * q.2.2 * s.2.2 * (p.1 * (q.2.1 * s.2.2 - s.2.1 * q.2.2) - p.2.1 * (q.1 * s.2.2 - s.1 * q.2.2) + p.2.2 * (q.1 * s.2.1 - s.1 * q.2.1)) = 0 := by
  obtain ⟨g, g0, e1, _, _, _⟩ := h.ex
  have e : (cr4 (w4 p) (w4 q) (w4 s)).1 = p.2.2 * q.2.2 * s.2.2 * (p.1 * (q.2.1 * s.2.2 - s.2.1 * q.2.2) - p.2.1 * (q.1 * s.2.2 - s.1 * q.2.2) + p.2.2 * (q.1 * s.2.1 - s.1 * q.2.1)) := by
    simp only [cr4, dt3, mnr, w4]; grind
  rw [← e, e1]
  constructor
  · intro z; rw [z, Int.mul_zero]
  · intro z; exact (Int.mul_eq_zero.mp z).resolve_left g0
theorem PlQ.cz {n : Nat} {p : P3} {u v : Rat} (h : PlQ n p u v) (l : n ≤ 100000) : Cz 100000 (p.1, p.2.1) := ⟨h.s1.mono l, h.s2.mono l⟩
theorem PlQ.nz {n : Nat} {q : P3} {u v : Rat} (h : PlQ n q u v) (h0 : ¬(q.1 = 0 ∧ q.2.1 = 0)) : u * u + v * v ≠ 0 := by
  have c := cnrm_pos (w := (q.1, q.2.1)) h0
  unfold cnrm at c
  simp only at c
  have e1 := h.e1
  have e2 := h.e2
  have e : ((q.1 * q.1 + q.2.1 * q.2.1 : Int) : Rat) = (u * u + v * v) * (q.2.2 * q.2.2 : Rat) := by push_cast; grind
  intro z
  rw [z] at e
  have : ((q.1 * q.1 + q.2.1 * q.2.1 : Int) : Rat) = ((0 : Int) : Rat) := by rw [e]; push_cast; grind
  have := cast_inj this
  omega
/-- q is the place of z over w -/
structure HP (n : Nat) (q : P3) (z w : Cx2) : Prop where
  pt : Pt n q
  e1 : q.1 * w.1 - q.2.1 * w.2 = q.2.2 * z.1
  e2 : q.1 * w.2 + q.2.1 * w.1 = q.2.2 * z.2
  nz : ¬((z.1 = 0 ∧ z.2 = 0) ∧ (w.1 = 0 ∧ w.2 = 0))
theorem HP.mono {m n : Nat} {q : P3} {z w : Cx2} (h : HP m q z w) (l : m ≤ n) : HP n q z w := ⟨h.pt.mono l, h.e1, h.e2, h.nz⟩
theorem cx_norm {a b c d : Int} (h : ¬(c = 0 ∧ d = 0)) (e1 : a * c - b * d = 0) (e2 : a * d + b * c = 0) : a = 0 ∧ b = 0 := by
  have n0 : c * c + d * d ≠ 0 := fun z => h (two_sq z)
  constructor
  · have : a * (c * c + d * d) = 0 := by
      have : a * (c * c + d * d) = (a * c - b * d) * c + (a * d + b * c) * d := by grind
      rw [this, e1, e2]; simp
    exact (Int.mul_eq_zero.mp this).resolve_right n0
  · have : b * (c * c + d * d) = 0 := by
      have : b * (c * c + d * d) = (a * d + b * c) * c - (a * c - b * d) * d := by grind
      rw [this, e1, e2]; simp
    exact (Int.mul_eq_zero.mp this).resolve_right n0
theorem HP.far {n : Nat} {q : P3} {z w : Cx2} (h : HP n q z w) : q.2.2 = 0 ↔ (w.1 = 0 ∧ w.2 = 0) := by
  constructor
  · intro e
    have := h.pt.far e
    have e1 := h.e1
    have e2 := h.e2
    rw [this] at e1 e2
    simp only [Int.one_mul, Int.zero_mul, Int.sub_zero, Int.add_zero] at e1 e2
    exact ⟨e1, e2⟩
  · rintro ⟨w1, w2⟩
    have e1 := h.e1
    have e2 := h.e2
    rw [w1, w2, Int.mul_zero, Int.mul_zero] at e1 e2
    by_cases r : q.2.2 = 0
    · exact r
    · exfalso
      apply h.nz
      refine ⟨⟨?_, ?_⟩, w1, w2⟩
      · exact (Int.mul_eq_zero.mp (by simpa using e1.symm)).resolve_left r
      · exact (Int.mul_eq_zero.mp (by simpa using e2.symm)).resolve_left r
/-- the same quotient -/
theorem HP.tr {n : Nat} {q : P3} {z w z' w' : Cx2} (h : HP n q z w) (nz : ¬((z'.1 = 0 ∧ z'.2 = 0) ∧ (w'.1 = 0 ∧ w'.2 = 0))) (e1 : z.1 * w'.1 - z.2 * w'.2 = z'.1 * w.1 - z'.2 * w.2) (e2 : z.1 * w'.2 + z.2 * w'.1 = z'.1 * w.2 + z'.2 * w.1) : HP n q z' w' := by
  have h1 := h.e1
  have h2 := h.e2
  by_cases w0 : w.1 = 0 ∧ w.2 = 0
  · have r := h.far.mpr w0
    have qf := h.pt.far r
    obtain ⟨w1, w2⟩ := w0
    rw [w1, w2] at e1 e2
    simp only [Int.mul_zero, Int.sub_zero, Int.add_zero] at e1 e2
    have z0 : ¬(z.1 = 0 ∧ z.2 = 0) := fun z0 => h.nz ⟨z0, w1, w2⟩
    have := cx_norm (a := w'.1) (b := w'.2) z0 (by rw [Int.mul_comm w'.1, Int.mul_comm w'.2]; exact e1) (by rw [Int.mul_comm w'.1, Int.mul_comm w'.2]; omega)
    refine ⟨h.pt, ?_, ?_, nz⟩
    · rw [qf, this.1, this.2]; simp
    · rw [qf, this.1, this.2]; simp
  · refine ⟨h.pt, ?_, ?_, nz⟩
    · have k := cx_norm (a := q.1 * w'.1 - q.2.1 * w'.2 - q.2.2 * z'.1) (b := q.1 * w'.2 + q.2.1 * w'.1 - q.2.2 * z'.2) w0 (by grind) (by grind)
      have := k.1
      omega
    · have k := cx_norm (a := q.1 * w'.1 - q.2.1 * w'.2 - q.2.2 * z'.1) (b := q.1 * w'.2 + q.2.1 * w'.1 - q.2.2 * z'.2) w0 (by grind) (by grind)
      have := k.2
      omega
theorem HP.self {n : Nat} {q : P3} (h : Pt n q) : HP n q (q.1, q.2.1) (q.2.2, 0) := by
  refine ⟨h, by simp only [Int.mul_zero, Int.sub_zero]; exact Int.mul_comm _ _, by simp only [Int.mul_zero, Int.zero_add]; exact Int.mul_comm _ _, ?_⟩
  rintro ⟨⟨a, b⟩, c, _⟩
  simp only at a b c
  have := h.far c
  rw [this] at a
  simp at a
theorem HP.uniq {m n : Nat} {q q' : P3} {z w : Cx2} (h : HP m q z w) (h' : HP n q' z w) : q = q' := by
  refine dd_zero h.pt h'.pt ?_
  have a1 := h.e1
  have a2 := h.e2
  have b1 := h'.e1
  have b2 := h'.e2
  by_cases w0 : w.1 = 0 ∧ w.2 = 0
  · have r := h.far.mpr w0
    have r' := h'.far.mpr w0
    unfold dd
    rw [r, r']
    simp
  · have k := cx_norm (a := q.1 * q'.2.2 - q'.1 * q.2.2) (b := q.2.1 * q'.2.2 - q'.2.1 * q.2.2) w0 (by grind) (by grind)
    unfold dd
    rw [k.1, k.2]
    rfl
def df1 (p q : P3) : Int := p.1 * q.2.2 - q.1 * p.2.2
def df2 (p q : P3) : Int := p.2.1 * q.2.2 - q.2.1 * p.2.2
def ui (p q r s : P3) : Int := df1 p r * df2 q s + df2 p r * df1 q s
/-- complex numbers with whole parts, as a ring -/
structure Gi where
  re : Int
  im : Int
theorem Gi.ext' {a b : Gi} (h : a.re = b.re) (q : a.im = b.im) : a = b := by
  cases a; cases b; simp only at h q; subst h q; rfl
def Gi.npw (a : Gi) : Nat → Gi
  | 0 => ⟨1, 0⟩
  | n + 1 => ⟨(Gi.npw a n).re * a.re - (Gi.npw a n).im * a.im, (Gi.npw a n).re * a.im + (Gi.npw a n).im * a.re⟩
instance : Add Gi := ⟨fun a b => ⟨a.re + b.re, a.im + b.im⟩⟩
instance : Mul Gi := ⟨fun a b => ⟨a.re * b.re - a.im * b.im, a.re * b.im + a.im * b.re⟩⟩
instance : Neg Gi := ⟨fun a => ⟨-a.re, -a.im⟩⟩
instance : Sub Gi := ⟨fun a b => ⟨a.re - b.re, a.im - b.im⟩⟩
instance : NatCast Gi := ⟨fun n => ⟨n, 0⟩⟩
instance : IntCast Gi := ⟨fun n => ⟨n, 0⟩⟩
instance (n : Nat) : OfNat Gi n := ⟨⟨n, 0⟩⟩
instance : SMul Nat Gi := ⟨fun n a => (n : Gi) * a⟩
instance : SMul Int Gi := ⟨fun n a => (n : Gi) * a⟩
instance : HPow Gi Nat Gi := ⟨Gi.npw⟩
theorem Gi.add_re (a b : Gi) : (a + b).re = a.re + b.re := rfl
theorem Gi.add_im (a b : Gi) : (a + b).im = a.im + b.im := rfl
theorem Gi.sub_re (a b : Gi) : (a - b).re = a.re - b.re := rfl
theorem Gi.sub_im (a b : Gi) : (a - b).im = a.im - b.im := rfl
theorem Gi.mul_re (a b : Gi) : (a * b).re = a.re * b.re - a.im * b.im := rfl
theorem Gi.mul_im (a b : Gi) : (a * b).im = a.re * b.im + a.im * b.re := rfl
theorem Gi.neg_re (a : Gi) : (-a).re = -a.re := rfl
theorem Gi.neg_im (a : Gi) : (-a).im = -a.im := rfl
theorem Gi.zero_re : (0 : Gi).re = 0 := rfl
theorem Gi.zero_im : (0 : Gi).im = 0 := rfl
theorem Gi.one_re : (1 : Gi).re = 1 := rfl
theorem Gi.one_im : (1 : Gi).im = 0 := rfl
theorem Gi.eq0 {a : Gi} : (a.re = 0 ∧ a.im = 0) ↔ a = 0 := ⟨fun ⟨x, y⟩ => Gi.ext' x y, fun h => by rw [h]; exact ⟨rfl, rfl⟩⟩
instance : Lean.Grind.CommRing Gi where
  add_zero a := Gi.ext' (Int.add_zero _) (Int.add_zero _)
  add_comm a b := Gi.ext' (Int.add_comm _ _) (Int.add_comm _ _)
  add_assoc a b c := Gi.ext' (Int.add_assoc _ _ _) (Int.add_assoc _ _ _)
  mul_assoc a b c := Gi.ext' (by simp only [Gi.mul_re, Gi.mul_im]; grind) (by simp only [Gi.mul_re, Gi.mul_im]; grind)
  mul_one a := Gi.ext' (by simp only [Gi.mul_re, Gi.one_re, Gi.one_im]; omega) (by simp only [Gi.mul_im, Gi.one_re, Gi.one_im]; omega)
  one_mul a := Gi.ext' (by simp only [Gi.mul_re, Gi.one_re, Gi.one_im]; omega) (by simp only [Gi.mul_im, Gi.one_re, Gi.one_im]; omega)
  right_distrib a b c := Gi.ext' (by simp only [Gi.mul_re, Gi.add_re, Gi.add_im]; grind) (by simp only [Gi.mul_im, Gi.add_re, Gi.add_im]; grind)
  mul_zero a := Gi.ext' (by simp only [Gi.mul_re, Gi.zero_re, Gi.zero_im]; omega) (by simp only [Gi.mul_im, Gi.zero_re, Gi.zero_im]; omega)
  left_distrib a b c := Gi.ext' (by simp only [Gi.mul_re, Gi.add_re, Gi.add_im]; grind) (by simp only [Gi.mul_im, Gi.add_re, Gi.add_im]; grind)
  zero_mul a := Gi.ext' (by simp only [Gi.mul_re, Gi.zero_re, Gi.zero_im]; omega) (by simp only [Gi.mul_im, Gi.zero_re, Gi.zero_im]; omega)
  pow_zero a := rfl
  pow_succ a n := rfl
  ofNat_succ n := Gi.ext' (by show ((n + 1 : Nat) : Int) = (n : Int) + 1; omega) rfl
  ofNat_eq_natCast n := rfl
  nsmul_eq_natCast_mul n a := rfl
  neg_add_cancel a := Gi.ext' (Int.add_left_neg _) (Int.add_left_neg _)
  sub_eq_add_neg a b := Gi.ext' Int.sub_eq_add_neg Int.sub_eq_add_neg
  neg_zsmul i a := Gi.ext' (by show (-i) * a.re - 0 * a.im = -(i * a.re - 0 * a.im); grind) (by show (-i) * a.im + 0 * a.re = -(i * a.im + 0 * a.re); grind)
  zsmul_natCast_eq_nsmul n a := rfl
  intCast_ofNat n := rfl
  intCast_neg i := Gi.ext' rfl (by show (0 : Int) = -0; rfl)
  mul_comm a b := Gi.ext' (by simp only [Gi.mul_re]; grind) (by simp only [Gi.mul_im]; grind)
def Gi.cj (a : Gi) : Gi := ⟨a.re, -a.im⟩
def Gi.nm (a : Gi) : Int := a.re * a.re + a.im * a.im
theorem Gi.cj_add (a b : Gi) : (a + b).cj = a.cj + b.cj := Gi.ext' rfl (by show -(a.im + b.im) = -a.im + -b.im; omega)
theorem Gi.cj_sub (a b : Gi) : (a - b).cj = a.cj - b.cj := Gi.ext' rfl (by show -(a.im - b.im) = -a.im - -b.im; omega)
theorem Gi.cj_neg (a : Gi) : (-a).cj = -a.cj := rfl
theorem Gi.cj_mul (a b : Gi) : (a * b).cj = a.cj * b.cj := Gi.ext' (by show a.re * b.re - a.im * b.im = a.re * b.re - -a.im * -b.im; grind) (by show -(a.re * b.im + a.im * b.re) = a.re * -b.im + -a.im * b.re; grind)
theorem Gi.cj_cj (a : Gi) : a.cj.cj = a := Gi.ext' rfl (Int.neg_neg _)
theorem Gi.nm_mul (a b : Gi) : (a * b).nm = a.nm * b.nm := by unfold Gi.nm; simp only [Gi.mul_re, Gi.mul_im]; grind
theorem Gi.nm_cj (a : Gi) : a.cj.nm = a.nm := by unfold Gi.nm Gi.cj; simp only; grind
theorem Gi.nm_nn (a : Gi) : 0 ≤ a.nm := by
  have := mul_self_nonneg' a.re
  have := mul_self_nonneg' a.im
  unfold Gi.nm; omega
theorem Gi.nm_zero {a : Gi} (h : a.nm = 0) : a = 0 := by
  unfold Gi.nm at h
  have h1 := mul_self_nonneg' a.re
  have h2 := mul_self_nonneg' a.im
  refine Gi.ext' ?_ ?_
  · by_cases c : a.re = 0
    · exact c
    · have := imul_self_pos c; omega
  · by_cases c : a.im = 0
    · exact c
    · have := imul_self_pos c; omega
theorem Gi.nm_pos {a : Gi} (h : a ≠ 0) : 0 < a.nm := by
  rcases Int.lt_or_eq_of_le a.nm_nn with e | e
  · exact e
  · exact absurd (Gi.nm_zero e.symm) h
theorem Gi.nm_of_zero : (0 : Gi).nm = 0 := rfl
theorem Gi.mul_zero' {a b : Gi} (h : a * b = 0) : a = 0 ∨ b = 0 := by
  have e := Gi.nm_mul a b
  rw [h, Gi.nm_of_zero] at e
  rcases Int.mul_eq_zero.mp e.symm with f | f
  · exact .inl (Gi.nm_zero f)
  · exact .inr (Gi.nm_zero f)
theorem Gi.mul_ne {a b : Gi} (h : a ≠ 0) (q : b ≠ 0) : a * b ≠ 0 := fun e => (Gi.mul_zero' e).elim h q
theorem Gi.cancel {a b c : Gi} (h : c ≠ 0) (e : c * a = c * b) : a = b := by
  have : c * (a - b) = 0 := by grind
  have := (Gi.mul_zero' this).resolve_left h
  grind
theorem Gi.cj_ne {a : Gi} (h : a ≠ 0) : a.cj ≠ 0 := fun e => h (by have := congrArg Gi.cj e; rw [Gi.cj_cj] at this; exact this)
instance : DecidableEq Gi := fun a b => if h : a.re = b.re ∧ a.im = b.im then .isTrue (Gi.ext' h.1 h.2) else .isFalse fun e => h (by rw [e]; exact ⟨rfl, rfl⟩)
/-- norms below 2 ^ n -/
def Nz (n : Nat) (a : Gi) : Prop := a.nm < 2 ^ n
theorem Nz.sz {n : Nat} {a : Gi} (h : Nz n a) : Sz n a.re ∧ Sz n a.im := by
  unfold Nz Gi.nm at h
  have h1 := mul_self_nonneg' a.re
  have h2 := mul_self_nonneg' a.im
  have key : ∀ x : Int, x * x < 2 ^ n → Sz n x := fun x hx => by
    have e : ((x.natAbs * x.natAbs : Nat) : Int) = x * x := Int.natAbs_mul_self' x ▸ (by push_cast; rfl)
    have e2 : x.natAbs * x.natAbs < 2 ^ n := by
      have : ((x.natAbs * x.natAbs : Nat) : Int) < ((2 ^ n : Nat) : Int) := by rw [e]; push_cast; exact hx
      exact_mod_cast this
    have : x.natAbs ≤ x.natAbs * x.natAbs := by
      rcases Nat.eq_zero_or_pos x.natAbs with z | z
      · rw [z]; exact Nat.le_refl _
      · exact Nat.le_mul_of_pos_left _ z
    unfold Sz
    omega
  exact ⟨key _ (by omega), key _ (by omega)⟩
theorem Nz.mono {m n : Nat} {a : Gi} (h : Nz m a) (l : m ≤ n) : Nz n a := by
  have : (2 : Int) ^ m ≤ 2 ^ n := by exact_mod_cast Nat.pow_le_pow_right (n := 2) (by decide) l
  unfold Nz at *
  omega
theorem Nz.cj {n : Nat} {a : Gi} (h : Nz n a) : Nz n a.cj := by unfold Nz at *; rw [Gi.nm_cj]; exact h
theorem Nz.dvd {n : Nat} {a b : Gi} (hb : b ≠ 0) (h : Nz n (b * a)) : Nz n a := by
  unfold Nz at *
  rw [Gi.nm_mul] at h
  have h1 := Gi.nm_pos hb
  have h2 := a.nm_nn
  have : a.nm ≤ b.nm * a.nm := by
    have := Int.mul_le_mul_of_nonneg_right (show 1 ≤ b.nm by omega) h2
    omega
  omega
theorem Nz.mul {m n : Nat} {a b : Gi} (h : Nz m a) (q : Nz n b) : Nz (m + n) (a * b) := by
  unfold Nz at *
  rw [Gi.nm_mul, Int.pow_add]
  generalize (2 : Int) ^ m = A at *
  generalize (2 : Int) ^ n = B at *
  have ha := a.nm_nn
  have hb := b.nm_nn
  have h1 := Int.mul_le_mul (show a.nm ≤ A - 1 by omega) (show b.nm ≤ B - 1 by omega) hb (by omega)
  have h2 : (A - 1) * (B - 1) = A * B - A - B + 1 := by grind
  omega
theorem Nz.add {n : Nat} {a b : Gi} (h : Nz n a) (q : Nz n b) : Nz (n + 2) (a + b) := by
  unfold Nz at *
  have e : (a + b).nm ≤ 2 * a.nm + 2 * b.nm := by
    have d : 2 * a.nm + 2 * b.nm - (a + b).nm = (a - b).nm := by unfold Gi.nm; simp only [Gi.add_re, Gi.add_im, Gi.sub_re, Gi.sub_im]; grind
    have := (a - b).nm_nn
    omega
  have p : (2 : Int) ^ (n + 2) = 4 * 2 ^ n := by rw [Int.pow_add]; omega
  omega
theorem Nz.neg {n : Nat} {a : Gi} (h : Nz n a) : Nz n (-a) := by
  unfold Nz at *
  have : (-a).nm = a.nm := by unfold Gi.nm; simp only [Gi.neg_re, Gi.neg_im]; grind
  omega
/-- g is a greatest common divisor of a and b -/
structure G2 (g a b : Gi) : Prop where
  l : ∃ x, a = x * g
  r : ∃ x, b = x * g
  s : ∃ u v, g = u * a + v * b
theorem G2.zero (a : Gi) : G2 a a 0 := ⟨⟨1, by grind⟩, ⟨0, by grind⟩, ⟨1, 0, by grind⟩⟩
theorem G2.step {g a b q : Gi} (h : G2 g b (a - q * b)) : G2 g a b := by
  obtain ⟨⟨x, hx⟩, ⟨y, hy⟩, u, v, hs⟩ := h
  exact ⟨⟨y + q * x, by grind⟩, ⟨x, hx⟩, v, u - v * q, by grind⟩
def nearI (a n : Int) : Int := (2 * a + n) / (2 * n)
theorem nearI_ok {a n : Int} (h : 0 < n) : -n ≤ 2 * (a - nearI a n * n) ∧ 2 * (a - nearI a n * n) ≤ n := by
  unfold nearI
  have e := Int.mul_ediv_add_emod (2 * a + n) (2 * n)
  have l := Int.emod_nonneg (2 * a + n) (show 2 * n ≠ 0 by omega)
  have r := Int.emod_lt_of_pos (2 * a + n) (show 0 < 2 * n by omega)
  generalize (2 * a + n) / (2 * n) = q at *
  generalize (2 * a + n) % (2 * n) = t at *
  have : 2 * (q * n) = 2 * n * q := by grind
  constructor <;> grind
def nearG (a b : Gi) : Gi := ⟨nearI (a * b.cj).re b.nm, nearI (a * b.cj).im b.nm⟩
theorem sq_half {x n : Int} (h1 : -n ≤ 2 * x) (h2 : 2 * x ≤ n) : 4 * (x * x) ≤ n * n := by
  have := Int.mul_nonneg (show 0 ≤ n - 2 * x by omega) (show 0 ≤ n + 2 * x by omega)
  have : (n - 2 * x) * (n + 2 * x) = n * n - 4 * (x * x) := by grind
  omega
theorem nearG_nm {a b : Gi} (h : b ≠ 0) : 2 * (a - nearG a b * b).nm ≤ b.nm := by
  have p := Gi.nm_pos h
  have e : (a - nearG a b * b) * b.cj = ⟨(a * b.cj).re - nearI (a * b.cj).re b.nm * b.nm, (a * b.cj).im - nearI (a * b.cj).im b.nm * b.nm⟩ := by
    have f : b * b.cj = ⟨b.nm, 0⟩ := Gi.ext' (by show b.re * b.re - b.im * -b.im = b.re * b.re + b.im * b.im; grind) (by show b.re * -b.im + b.im * b.re = 0; grind)
    have g : (a - nearG a b * b) * b.cj = a * b.cj - nearG a b * (b * b.cj) := by grind
    rw [g, f]
    refine Gi.ext' ?_ ?_
    · simp only [Gi.sub_re, Gi.mul_re, nearG]; grind
    · simp only [Gi.sub_im, Gi.mul_im, nearG]; grind
  have m := Gi.nm_mul (a - nearG a b * b) b.cj
  rw [e, Gi.nm_cj] at m
  obtain ⟨h1, h2⟩ := nearI_ok (a := (a * b.cj).re) p
  obtain ⟨h3, h4⟩ := nearI_ok (a := (a * b.cj).im) p
  have q1 := sq_half h1 h2
  have q2 := sq_half h3 h4
  have : 4 * ((a - nearG a b * b).nm * b.nm) ≤ 2 * (b.nm * b.nm) := by
    have m' : (a - nearG a b * b).nm * b.nm = ((a * b.cj).re - nearI (a * b.cj).re b.nm * b.nm) * ((a * b.cj).re - nearI (a * b.cj).re b.nm * b.nm) + ((a * b.cj).im - nearI (a * b.cj).im b.nm * b.nm) * ((a * b.cj).im - nearI (a * b.cj).im b.nm * b.nm) := m.symm
    omega
  have : (2 * (a - nearG a b * b).nm) * b.nm ≤ b.nm * b.nm := by
    have : (2 * (a - nearG a b * b).nm) * b.nm = 2 * ((a - nearG a b * b).nm * b.nm) := by grind
    omega
  exact Int.le_of_mul_le_mul_right this p
theorem G2.nz {g a b : Gi} (h : G2 g a b) (z : g = 0) : a = 0 ∧ b = 0 := by
  obtain ⟨⟨x, hx⟩, ⟨y, hy⟩, _⟩ := h
  subst z
  constructor <;> grind
abbrev G4 := Gi × Gi × Gi × Gi
/-- g is a greatest common divisor of four numbers -/
structure GD (g : Gi) (m : G4) : Prop where
  d1 : ∃ x, m.1 = x * g
  d2 : ∃ x, m.2.1 = x * g
  d3 : ∃ x, m.2.2.1 = x * g
  d4 : ∃ x, m.2.2.2 = x * g
  s : ∃ u v w t, g = u * m.1 + v * m.2.1 + w * m.2.2.1 + t * m.2.2.2
theorem gd_of {a b c d g1 g2 g3 g4 : Gi} (h1 : G2 g1 0 a) (h2 : G2 g2 g1 b) (h3 : G2 g3 g2 c) (h4 : G2 g4 g3 d) : GD g4 (a, b, c, d) := by
  obtain ⟨_, ⟨x1, e1⟩, u1, v1, s1⟩ := h1
  obtain ⟨⟨y2, f2⟩, ⟨x2, e2⟩, u2, v2, s2⟩ := h2
  obtain ⟨⟨y3, f3⟩, ⟨x3, e3⟩, u3, v3, s3⟩ := h3
  obtain ⟨⟨y4, f4⟩, ⟨x4, e4⟩, u4, v4, s4⟩ := h4
  have k2 : g2 = y3 * y4 * g4 := by rw [f3, f4]; grind
  have k1 : g1 = y2 * y3 * y4 * g4 := by rw [f2, k2]; grind
  refine ⟨⟨x1 * y2 * y3 * y4, ?_⟩, ⟨x2 * y3 * y4, ?_⟩, ⟨x3 * y4, ?_⟩, ⟨x4, e4⟩, u4 * u3 * u2 * v1, u4 * u3 * v2, u4 * v3, v4, ?_⟩
  · simp only; rw [e1, k1]; grind
  · simp only; rw [e2, k2]; grind
  · simp only; rw [e3, f4]; grind
  · simp only; rw [s4, s3, s2, s1]; grind
def fst4 (m : G4) : Gi := if m.1 ≠ 0 then m.1 else if m.2.1 ≠ 0 then m.2.1 else if m.2.2.1 ≠ 0 then m.2.2.1 else m.2.2.2
def scl (c : Gi) (m : G4) : G4 := (c * m.1, c * m.2.1, c * m.2.2.1, c * m.2.2.2)
theorem fst4_scl {c : Gi} (h : c ≠ 0) (m : G4) : fst4 (scl c m) = c * fst4 m := by
  have k : ∀ x : Gi, c * x ≠ 0 ↔ x ≠ 0 := fun x => ⟨fun e z => e (by rw [z]; grind), fun e => Gi.mul_ne h e⟩
  unfold fst4 scl
  simp only [k]
  split
  · rfl
  split
  · rfl
  split
  · rfl
  · rfl
/-- in the quarter -/
def Qf (a : Gi) : Prop := 0 < a.re ∧ 0 ≤ a.im
structure Mp (m : G4) : Prop where
  bez : ∃ u v w t, u * m.1 + v * m.2.1 + w * m.2.2.1 + t * m.2.2.2 = 1
  qf : Qf (fst4 m)
theorem unit_nm {s t : Gi} (h : s * t = 1) : s.nm = 1 := by
  have e := Gi.nm_mul s t
  rw [h] at e
  have e : s.nm * t.nm = 1 := e.symm
  have h1 := s.nm_nn
  have h2 := t.nm_nn
  have s0 : s.nm ≠ 0 := fun z => by rw [z, Int.zero_mul] at e; omega
  have t0 : t.nm ≠ 0 := fun z => by rw [z, Int.mul_zero] at e; omega
  have := Int.mul_le_mul_of_nonneg_left (show 1 ≤ t.nm by omega) h1
  omega
theorem unit_4 {s : Gi} (h : s.nm = 1) : (s.re = 1 ∧ s.im = 0) ∨ (s.re = -1 ∧ s.im = 0) ∨ (s.re = 0 ∧ s.im = 1) ∨ (s.re = 0 ∧ s.im = -1) := by
  unfold Gi.nm at h
  have h1 := mul_self_nonneg' s.re
  have h2 := mul_self_nonneg' s.im
  have k : ∀ x : Int, x * x ≤ 1 → x = 0 ∨ x = 1 ∨ x = -1 := fun x hx => by
    rcases Int.lt_trichotomy x 0 with f | f | f
    · by_cases g : x = -1
      · exact .inr (.inr g)
      · have := Int.mul_le_mul_of_nonneg_left (show 2 ≤ -x by omega) (show 0 ≤ -x by omega); rw [Int.neg_mul_neg] at this; omega
    · exact .inl f
    · by_cases g : x = 1
      · exact .inr (.inl g)
      · have := Int.mul_le_mul_of_nonneg_left (show 2 ≤ x by omega) (show 0 ≤ x by omega); omega
  rcases k s.re (by omega) with f | f | f <;> rcases k s.im (by omega) with g | g | g <;> rw [f, g] at h ⊢ <;> simp at h ⊢
theorem qf_unit {s f : Gi} (h : s.nm = 1) (q : Qf f) (q' : Qf (s * f)) : s = 1 := by
  unfold Qf at q q'
  rw [Gi.mul_re, Gi.mul_im] at q'
  rcases unit_4 h with ⟨a, b⟩ | ⟨a, b⟩ | ⟨a, b⟩ | ⟨a, b⟩ <;> rw [a, b] at q'
  · exact Gi.ext' a b
  · omega
  · omega
  · omega
/-- maps along one another are the same -/
theorem mp_uniq {m m' : G4} {c c' : Gi} (h : Mp m) (h' : Mp m') (c0 : c ≠ 0) (c0' : c' ≠ 0) (e : scl c m = scl c' m') : m = m' := by
  obtain ⟨⟨u, v, w, t, hb⟩, hq⟩ := h
  obtain ⟨⟨u', v', w', t', hb'⟩, hq'⟩ := h'
  have ef := fst4_scl c0 m
  rw [e, fst4_scl c0'] at ef
  obtain ⟨a, b, p, d⟩ := m
  obtain ⟨a', b', p', d'⟩ := m'
  unfold scl at e
  simp only [Prod.mk.injEq] at e hb hb'
  obtain ⟨e1, e2, e3, e4⟩ := e
  have k1 : c = c' * (u * a' + v * b' + w * p' + t * d') := by
    have : c = c * (u * a + v * b + w * p + t * d) := by rw [hb]; grind
    have e : c * (u * a + v * b + w * p + t * d) = u * (c * a) + v * (c * b) + w * (c * p) + t * (c * d) := by grind
    rw [this, e, e1, e2, e3, e4]; grind
  have k2 : c' = c * (u' * a + v' * b + w' * p + t' * d) := by
    have : c' = c' * (u' * a' + v' * b' + w' * p' + t' * d') := by rw [hb']; grind
    have e : c' * (u' * a' + v' * b' + w' * p' + t' * d') = u' * (c' * a') + v' * (c' * b') + w' * (c' * p') + t' * (c' * d') := by grind
    rw [this, e, ← e1, ← e2, ← e3, ← e4]; grind
  generalize u * a' + v * b' + w * p' + t * d' = s at k1
  generalize u' * a + v' * b + w' * p + t' * d = s' at k2
  have ss : s * s' = 1 := by
    refine Gi.cancel (c := c') c0' ?_
    have : c' * (s * s') = c * s' := by rw [k1]; grind
    rw [this, ← k2]; grind
  have ns := unit_nm ss
  have q1 : fst4 (a', b', p', d') = s * fst4 (a, b, p, d) := by
    refine Gi.cancel (c := c') c0' ?_
    rw [ef]
    have : c' * (s * fst4 (a, b, p, d)) = (c' * s) * fst4 (a, b, p, d) := by grind
    rw [this, ← k1]
  rw [q1] at hq'
  have s1 := qf_unit ns hq hq'
  have cc : c = c' := by rw [k1, s1]; grind
  rw [cc] at e1 e2 e3 e4
  rw [Gi.cancel c0' e1, Gi.cancel c0' e2, Gi.cancel c0' e3, Gi.cancel c0' e4]

def zG (q : P3) : Gi := ⟨q.1, q.2.1⟩
def rG (q : P3) : Gi := ⟨q.2.2, 0⟩
/-- q is the place of z over w -/
structure HG (n : Nat) (q : P3) (z w : Gi) : Prop where
  pt : Pt n q
  e : zG q * w = rG q * z
  nz : ¬(z = 0 ∧ w = 0)
theorem HG.hp {n : Nat} {q : P3} {z w : Gi} (h : HG n q z w) : HP n q (z.re, z.im) (w.re, w.im) := by
  have e := h.e
  have e1 := congrArg Gi.re e
  have e2 := congrArg Gi.im e
  simp only [Gi.mul_re, Gi.mul_im, zG, rG] at e1 e2
  exact ⟨h.pt, by simp only; omega, by simp only; omega, fun ⟨a, b⟩ => h.nz ⟨Gi.eq0.mp a, Gi.eq0.mp b⟩⟩
theorem HP.hg {n : Nat} {q : P3} {z w : Gi} (h : HP n q (z.re, z.im) (w.re, w.im)) : HG n q z w := by
  have e1 := h.e1
  have e2 := h.e2
  simp only at e1 e2
  refine ⟨h.pt, Gi.ext' ?_ ?_, fun ⟨a, b⟩ => h.nz ⟨Gi.eq0.mpr a, Gi.eq0.mpr b⟩⟩
  · simp only [Gi.mul_re, zG, rG]; omega
  · simp only [Gi.mul_im, zG, rG]; omega
theorem HG.uniq {m n : Nat} {q q' : P3} {z w : Gi} (h : HG m q z w) (h' : HG n q' z w) : q = q' := h.hp.uniq h'.hp
theorem HG.tr {n : Nat} {q : P3} {z w z' w' : Gi} (h : HG n q z w) (nz : ¬(z' = 0 ∧ w' = 0)) (e : z * w' = z' * w) : HG n q z' w' := by
  refine HP.hg (h.hp.tr (fun ⟨a, b⟩ => nz ⟨Gi.eq0.mp a, Gi.eq0.mp b⟩) ?_ ?_)
  · have := congrArg Gi.re e
    simpa only [Gi.mul_re] using this
  · have := congrArg Gi.im e
    simpa only [Gi.mul_im] using this
theorem HG.self {n : Nat} {q : P3} (h : Pt n q) : HG n q (zG q) (rG q) := HP.hg (HP.self h)
/-- two ways to write one place -/
theorem HG.cross {m n : Nat} {q : P3} {z w z' w' : Gi} (h : HG m q z w) (h' : HG n q z' w') : z * w' = z' * w := by
  have a := h.e
  have b := h'.e
  have s := (HG.self h.pt).nz
  by_cases r : rG q = 0
  · have z0 : zG q ≠ 0 := fun z0 => s ⟨z0, r⟩
    rw [r] at a b
    have w0 : w = 0 := (Gi.mul_zero' (a.trans (by grind))).resolve_left z0
    have w0' : w' = 0 := (Gi.mul_zero' (b.trans (by grind))).resolve_left z0
    rw [w0, w0']
    grind
  · refine Gi.cancel (c := rG q) r ?_
    have : rG q * (z * w') = (rG q * z) * w' := by grind
    have k : rG q * (z' * w) = (rG q * z') * w := by grind
    rw [this, k, ← a, ← b]
    grind
def dtG (m : G4) : Gi := m.1 * m.2.2.2 - m.2.1 * m.2.2.1
def apz (m : G4) (z w : Gi) : Gi := m.1 * z + m.2.1 * w
def apw (m : G4) (z w : Gi) : Gi := m.2.2.1 * z + m.2.2.2 * w
theorem ap_nz {m : G4} {z w : Gi} (d : dtG m ≠ 0) (h : ¬(z = 0 ∧ w = 0)) : ¬(apz m z w = 0 ∧ apw m z w = 0) := by
  rintro ⟨a, b⟩
  unfold apz at a
  unfold apw at b
  have k1 : dtG m * z = 0 := by
    have : dtG m * z = m.2.2.2 * (m.1 * z + m.2.1 * w) - m.2.1 * (m.2.2.1 * z + m.2.2.2 * w) := by unfold dtG; grind
    rw [this, a, b]; grind
  have k2 : dtG m * w = 0 := by
    have : dtG m * w = m.1 * (m.2.2.1 * z + m.2.2.2 * w) - m.2.2.1 * (m.1 * z + m.2.1 * w) := by unfold dtG; grind
    rw [this, a, b]; grind
  exact h ⟨(Gi.mul_zero' k1).resolve_left d, (Gi.mul_zero' k2).resolve_left d⟩
theorem HG.map {l n : Nat} {m : G4} {q t : P3} {z w : Gi} (d : dtG m ≠ 0) (h : HG l q z w) (ht : HG n t (apz m (zG q) (rG q)) (apw m (zG q) (rG q))) : HG n t (apz m z w) (apw m z w) := by
  refine ht.tr (ap_nz d h.nz) ?_
  have e := h.e
  have : apz m (zG q) (rG q) * apw m z w - apz m z w * apw m (zG q) (rG q) = dtG m * (zG q * w - rG q * z) := by unfold apz apw dtG; grind
  rw [e] at this
  have : apz m (zG q) (rG q) * apw m z w - apz m z w * apw m (zG q) (rG q) = 0 := by rw [this]; grind
  grind
def cjP (q : P3) : P3 := (q.1, -q.2.1, q.2.2)
theorem zG_cj (q : P3) : zG (cjP q) = (zG q).cj := rfl
theorem rG_cj (q : P3) : rG (cjP q) = rG q := rfl
theorem rG_self (q : P3) : (rG q).cj = rG q := Gi.ext' rfl (by show -(0 : Int) = 0; rfl)
theorem gcd_cj {a b c : Int} : gcdL 0 [a, -b, c] = gcdL 0 [a, b, c] := by
  unfold gcdL gcdL gcdL gcdL
  have : iGcd (iGcd 0 a) (-b) = iGcd (iGcd 0 a) b := by
    show ((Nat.gcd _ _ : Nat) : Int) = ((Nat.gcd _ _ : Nat) : Int)
    rw [Int.natAbs_neg]
  rw [this]
theorem Pt.cj {n : Nat} {q : P3} (h : Pt n q) : Pt n (cjP q) := by
  refine ⟨?_, (gcd_cj).trans h.one, h.s1, h.s2.neg, h.s3⟩
  rcases h.ok with ⟨a, b, c⟩ | c
  · exact .inl ⟨a, by show -q.2.1 = 0; omega, c⟩
  · exact .inr c
theorem HG.cj {n : Nat} {q : P3} {z w : Gi} (h : HG n q z w) : HG n (cjP q) z.cj w.cj := by
  refine ⟨h.pt.cj, ?_, fun ⟨a, b⟩ => h.nz ⟨?_, ?_⟩⟩
  · rw [zG_cj, rG_cj, ← Gi.cj_mul, h.e, Gi.cj_mul, rG_self]
  · have := congrArg Gi.cj a; rw [Gi.cj_cj] at this; exact this
  · have := congrArg Gi.cj b; rw [Gi.cj_cj] at this; exact this
/-- the first number, conjugate if the map is mirrored -/
def fl (f : Int) (z : Gi) : Gi := if f = 1 then z.cj else z
theorem fl_ne {f : Int} {z : Gi} (h : z ≠ 0) : fl f z ≠ 0 := by unfold fl; split; exact Gi.cj_ne h; exact h
/-- t is where the map leads q -/
def Led (n : Nat) (f : Int) (m : G4) (q t : P3) : Prop := HG n t (apz m (fl f (zG q)) (rG q)) (apw m (fl f (zG q)) (rG q))
theorem Led.uniq {l n : Nat} {f : Int} {m : G4} {q t t' : P3} (h : Led l f m q t) (h' : Led n f m q t') : t = t' := HG.uniq h h'
theorem Led.inj {l n a b : Nat} {f : Int} {m : G4} {q q' t : P3} (d : dtG m ≠ 0) (hq : Pt a q) (hq' : Pt b q') (h : Led l f m q t) (h' : Led n f m q' t) : q = q' := by
  have c := HG.cross h h'
  have k : dtG m * (fl f (zG q) * rG q' - fl f (zG q') * rG q) = 0 := by
    have : dtG m * (fl f (zG q) * rG q' - fl f (zG q') * rG q) = apz m (fl f (zG q)) (rG q) * apw m (fl f (zG q')) (rG q') - apz m (fl f (zG q')) (rG q') * apw m (fl f (zG q)) (rG q) := by unfold dtG apz apw; grind
    rw [this, c]; grind
  have k := (Gi.mul_zero' k).resolve_left d
  have k2 : zG q * rG q' - zG q' * rG q = 0 := by
    unfold fl at k
    split at k
    · have := congrArg Gi.cj k
      rw [Gi.cj_sub, Gi.cj_mul, Gi.cj_mul, Gi.cj_cj, Gi.cj_cj, rG_self, rG_self] at this
      exact this
    · exact k
  refine dd_zero hq hq' ?_
  have e1 := congrArg Gi.re k2
  have e2 := congrArg Gi.im k2
  simp only [Gi.sub_re, Gi.sub_im, Gi.mul_re, Gi.mul_im, zG, rG, Gi.zero_re, Gi.zero_im] at e1 e2
  unfold dd
  have f1 : q.1 * q'.2.2 - q'.1 * q.2.2 = 0 := by omega
  have f2 : q.2.1 * q'.2.2 - q'.2.1 * q.2.2 = 0 := by omega
  rw [f1, f2]
  rfl
/-- one matrix after another; the second one's conjugate if the first map is mirrored -/
def flm (f : Int) (m : G4) : G4 := (fl f m.1, fl f m.2.1, fl f m.2.2.1, fl f m.2.2.2)
def mulm (m n : G4) : G4 := (m.1 * n.1 + m.2.1 * n.2.2.1, m.1 * n.2.1 + m.2.1 * n.2.2.2, m.2.2.1 * n.1 + m.2.2.2 * n.2.2.1, m.2.2.1 * n.2.1 + m.2.2.2 * n.2.2.2)
def Pr (f : Int) (m n : G4) : G4 := mulm m (flm f n)
def adjm (m : G4) : G4 := (m.2.2.2, -m.2.1, -m.2.2.1, m.1)
def Bk (f : Int) (m : G4) : G4 := flm f (adjm m)
theorem dt_fl (f : Int) (m : G4) : dtG (flm f m) = fl f (dtG m) := by
  unfold dtG flm fl
  simp only
  split
  · rw [Gi.cj_sub, Gi.cj_mul, Gi.cj_mul]
  · rfl
theorem dt_adj (m : G4) : dtG (adjm m) = dtG m := by unfold dtG adjm; simp only; grind
theorem dt_scl (c : Gi) (m : G4) : dtG (scl c m) = c * c * dtG m := by unfold dtG scl; simp only; grind
theorem dt_fst {m : G4} (d : dtG m ≠ 0) : fst4 m ≠ 0 := fun z => by
  apply d
  unfold fst4 at z
  unfold dtG
  split at z
  · rename_i c; exact absurd z c
  · rename_i c1
    split at z
    · rename_i c; exact absurd z c
    · rename_i c2
      have a1 : m.1 = 0 := Classical.byContradiction c1
      have a2 : m.2.1 = 0 := Classical.byContradiction c2
      rw [a1, a2]
      grind
theorem ap_mul (m n : G4) (z w : Gi) : apz (mulm m n) z w = apz m (apz n z w) (apw n z w) ∧ apw (mulm m n) z w = apw m (apz n z w) (apw n z w) := by
  unfold apz apw mulm; simp only; constructor <;> grind
theorem ap_scl (c : Gi) (m : G4) (z w : Gi) : apz (scl c m) z w = c * apz m z w ∧ apw (scl c m) z w = c * apw m z w := by
  unfold apz apw scl; simp only; constructor <;> grind
/-- led by a multiple -/
theorem Led.scl {n : Nat} {f : Int} {c : Gi} {m : G4} {q t : P3} (c0 : c ≠ 0) (h : Led n f (scl c m) q t) : Led n f m q t := by
  unfold Led at *
  rw [(ap_scl _ _ _ _).1, (ap_scl _ _ _ _).2] at h
  refine h.tr (fun ⟨a, b⟩ => h.nz ⟨?_, ?_⟩) (by grind)
  · rw [a]; grind
  · rw [b]; grind
/-- led twice -/
theorem Led.two {l n a : Nat} {f g : Int} {m1 m2 : G4} {q s t : P3} (d : dtG m1 ≠ 0) (hf : f = 0 ∨ f = 1) (hg : g = 0 ∨ g = 1) (hs : Led l g m2 q s) (ht : Led n f m1 s t) : Led n ((f + g) % 2) (Pr f m1 m2) q t := by
  unfold Led at *
  have e : ∀ (z w : Gi), apz (flm 1 m2) z w = (apz m2 z.cj w.cj).cj ∧ apw (flm 1 m2) z w = (apw m2 z.cj w.cj).cj := fun z w => by
    unfold apz apw flm fl
    simp only [if_true, Gi.cj_add, Gi.cj_mul, Gi.cj_cj, and_self]
  rcases hf with rfl | rfl
  · have k := HG.map (m := m1) d hs ht
    have e0 : flm 0 m2 = m2 := rfl
    unfold Pr
    rw [e0, (ap_mul _ _ _ _).1, (ap_mul _ _ _ _).2]
    have eg : ((0 + g) % 2 : Int) = g := by rcases hg with rfl | rfl <;> rfl
    rw [eg]
    exact k
  · have k := HG.map (m := m1) (q := cjP s) d hs.cj ht
    unfold Pr
    rw [(ap_mul _ _ _ _).1, (ap_mul _ _ _ _).2, (e _ _).1, (e _ _).2, rG_self]
    have ez : (fl ((1 + g) % 2) (zG q)).cj = fl g (zG q) := by
      rcases hg with rfl | rfl
      · show ((zG q).cj).cj = zG q; exact Gi.cj_cj _
      · rfl
    rw [ez]
    exact k
theorem pr_back {f : Int} (hf : f = 0 ∨ f = 1) (m : G4) : Pr f (Bk f m) m = scl (fl f (dtG m)) (1, 0, 0, 1) ∧ Pr f m (Bk f m) = scl (dtG m) (1, 0, 0, 1) := by
  rcases hf with rfl | rfl <;> simp only [Bk, Pr, flm, fl, mulm, adjm, scl, dtG, Prod.mk.injEq] <;> simp [Gi.cj_add, Gi.cj_mul, Gi.cj_cj, Gi.cj_neg, Gi.cj_sub] <;> grind
theorem pr_scl (f : Int) (c d : Gi) (m n : G4) : Pr f (scl c m) (scl d n) = scl (c * fl f d) (Pr f m n) := by
  unfold Pr mulm flm fl scl
  simp only [Prod.mk.injEq]
  split <;> (try simp only [Gi.cj_mul]) <;> grind

abbrev gD (a : Gi) : D := .tup [.int a.re, .int a.im]
theorem ok_gD {a : Gi} : (gD a).eqOk := ok_cx
theorem Nz.cz {n : Nat} {a : Gi} (h : Nz n a) : Cz n (a.re, a.im) := h.sz
theorem sz_nm {n : Nat} {a : Gi} (h : Nz n a) : Sz n a.nm := by
  have := a.nm_nn
  unfold Nz at h
  unfold Sz
  have e : ((2 ^ n : Nat) : Int) = 2 ^ n := by push_cast; rfl
  omega
theorem w_nearest {T : Tk} {a n : Int} {k : KD} (h0 : 0 < n) (hs : Sz 8000 n) (h : k (.int (nearI a n)) T) : sm_nearest [.val (.int a), .val (.int n)] T k := by
  rw [e_nearest, b_nearest]
  walk_at "evn"
  exact ⟨lit_mul (by decide), lit_mul (by decide), ((show Sz 2 2 by unfold Sz; decide).mul hs).divOk (by decide) (by omega), h⟩
theorem w_timesG {T : Tk} {m n : Nat} {a b : Gi} {k : KD} (ha : Cz m (a.re, a.im)) (hb : Cz n (b.re, b.im)) (hm : m ≤ 100000) (hn : n ≤ 100000) (h : k (gD (a * b)) T) : sm_times [.val (gD a), .val (gD b)] T k :=
  w_times (ha.mono hm) (hb.mono hn) fun p hp => by subst hp; exact h
theorem w_minusG {T : Tk} {a b : Gi} {k : KD} (h : k (gD (a - b)) T) : sm_minus [.val (gD a), .val (gD b)] T k := w_minus h
theorem w_turnG {T : Tk} {a : Gi} {k : KD} (h : k (gD a.cj) T) : sm_turned_over [.val (gD a)] T k := w_turned_over h
theorem w_divisor_of_two {T : Tk} {n : Nat} {a b : Gi} {k : KD} (ha : Nz n a) (hb : Nz n b) (hn : n ≤ 2000) (h : ∀ g, G2 g a b → Nz n g → k (gD g) T) : sm_divisor_of_two [.val (gD a), .val (gD b)] T k := by
  rw [e_divisor_of_two, b_divisor_of_two, k_ZERO]
  walk_at "evm"
  unfold sWhile
  refine ⟨fun m ρ T' => T' = T ∧ ∃ (c d : Gi) (x y : Option SV), ρ = [some (.val (gD a)), some (.val (gD b)), some (.val (gD c)), some (.val (gD d)), x, y] ∧ m = d.nm.toNat ∧ Nz n c ∧ Nz n d ∧ ∀ g, G2 g c d → G2 g a b, ⟨_, rfl, a, b, none, none, rfl, rfl, ha, hb, fun _ q => q⟩, ?_⟩
  rintro m ρ T' ⟨rfl, c, d, x, y, rfl, rfl, hc, hd, tr⟩
  walk_at "evm"
  refine ⟨⟨ok_gD, ok_cx⟩, ?_⟩
  by_cases d0 : d = 0
  · rw [if_neg (by rw [d0]; decide)]
    subst d0
    exact h c (tr c (G2.zero c)) hc
  have p := Gi.nm_pos d0
  rw [if_pos (by
    have : ¬(d.re = 0 ∧ d.im = 0) := fun z => d0 (Gi.eq0.mp z)
    simp only [Bool.and_eq_false_imp, decide_eq_true_eq, decide_eq_false_iff_not]
    first | exact fun z1 z2 => this ⟨z1, z2⟩ | simpa using this)]
  refine w_turnG ?_
  walk_at "evm"
  refine w_timesG (b := d.cj) hc.cz (hd.cj).cz (by omega) (by omega) ?_
  walk_at "evm"
  refine w_square_size ((hd.cz).mono (by omega)) ?_
  walk_at "evm"
  refine w_nearest p ((sz_nm hd).mono (by omega)) ?_
  walk_at "evm"
  refine w_square_size ((hd.cz).mono (by omega)) ?_
  walk_at "evm"
  refine w_nearest p ((sz_nm hd).mono (by omega)) ?_
  walk_at "evm"
  have nq : Nz (n + 2) (nearG c d) := by
    have h2 : Nz n (c - nearG c d * d) := by
      have := nearG_nm (a := c) d0
      have := (c - nearG c d * d).nm_nn
      unfold Nz at hd ⊢
      omega
    refine Nz.dvd d0 ?_
    have e : d * nearG c d = c + -(c - nearG c d * d) := by grind
    rw [e]
    exact hc.add h2.neg
  refine w_timesG (a := nearG c d) (b := d) nq.cz hd.cz (by omega) (by omega) ?_
  walk_at "evm"
  refine w_minusG ?_
  walk_at "evm"
  have lt := nearG_nm (a := c) d0
  have nn := (c - nearG c d * d).nm_nn
  refine ⟨(c - nearG c d * d).nm.toNat, by omega, d, c - nearG c d * d, _, _, rfl, rfl, hd, ?_, fun g hg => tr g (G2.step hg)⟩
  unfold Nz at hd ⊢
  omega

theorem cdivd_mulG {x g : Gi} (h : g ≠ 0) : cdivd ((x * g).re, (x * g).im) (g.re, g.im) = some (x.re, x.im) := by
  have p : 0 < cnrm (g.re, g.im) := Gi.nm_pos h
  have e1 : (cmul ((x * g).re, (x * g).im) (cconj (g.re, g.im))).1 = x.re * cnrm (g.re, g.im) := by
    simp only [cmul, cconj, cnrm, Gi.mul_re, Gi.mul_im]; grind
  have e2 : (cmul ((x * g).re, (x * g).im) (cconj (g.re, g.im))).2 = x.im * cnrm (g.re, g.im) := by
    simp only [cmul, cconj, cnrm, Gi.mul_re, Gi.mul_im]; grind
  unfold cdivd
  rw [e1, e2, Int.mul_emod_left, Int.mul_emod_left, if_pos ⟨rfl, rfl⟩, Int.mul_ediv_cancel _ (by omega), Int.mul_ediv_cancel _ (by omega)]
def guni (f : Gi) : Gi := ⟨(cunit (f.re, f.im)).1, (cunit (f.re, f.im)).2⟩
theorem guni_nm (f : Gi) : (guni f).nm = 1 := by
  unfold guni cunit
  split
  · rfl
  split
  · rfl
  split
  · rfl
  · rfl
theorem guni_qf {f : Gi} (h : f ≠ 0) : Qf (f * guni f) := by
  have h' : ¬(f.re = 0 ∧ f.im = 0) := fun z => h (Gi.eq0.mp z)
  unfold Qf
  rw [Gi.mul_re, Gi.mul_im]
  unfold guni cunit
  simp only
  split
  · rename_i c; simp only; omega
  split
  · rename_i c; simp only; omega
  split
  · rename_i c; simp only; omega
  · simp only; omega
theorem nm1_inv {u : Gi} (h : u.nm = 1) : u * u.cj = 1 := Gi.ext' (by show u.re * u.re - u.im * -u.im = 1; unfold Gi.nm at h; grind) (by show u.re * -u.im + u.im * u.re = 0; grind)
theorem nm1_ne {u : Gi} (h : u.nm = 1) : u ≠ 0 := fun z => by rw [z] at h; exact absurd h (by decide)
abbrev mD (f : Int) (m : G4) : D := .tup [.int f, gD m.1, gD m.2.1, gD m.2.2.1, gD m.2.2.2]
/-- m is the map of four numbers -/
structure Fm (n : Nat) (N m : G4) : Prop where
  mp : Mp m
  c : ∃ c, c ≠ 0 ∧ N = scl c m
  s1 : Nz n m.1
  s2 : Nz n m.2.1
  s3 : Nz n m.2.2.1
  s4 : Nz n m.2.2.2
theorem Fm.uniq {n l : Nat} {N m m' : G4} (h : Fm n N m) (h' : Fm l N m') : m = m' := by
  obtain ⟨c, c0, e⟩ := h.c
  obtain ⟨c', c0', e'⟩ := h'.c
  exact mp_uniq h.mp h'.mp c0 c0' (e.symm.trans e')
/-- the quotients by a greatest common divisor, times a unit, are the map -/
theorem fm_of' {n : Nat} {x : G4} {g U : Gi} (un : U.nm = 1) (qf : Qf (fst4 x * U)) (g0 : g ≠ 0) (hd : ∃ u v w t, g = u * (x.1 * g) + v * (x.2.1 * g) + w * (x.2.2.1 * g) + t * (x.2.2.2 * g)) (s1 : Nz n (x.1 * g)) (s2 : Nz n (x.2.1 * g)) (s3 : Nz n (x.2.2.1 * g)) (s4 : Nz n (x.2.2.2 * g)) :
    Fm n (x.1 * g, x.2.1 * g, x.2.2.1 * g, x.2.2.2 * g) (x.1 * U, x.2.1 * U, x.2.2.1 * U, x.2.2.2 * U) := by
  have ui := nm1_inv un
  have u0 := nm1_ne un
  have c0 : g * U.cj ≠ 0 := Gi.mul_ne g0 (Gi.cj_ne u0)
  have ef : fst4 (x.1 * U, x.2.1 * U, x.2.2.1 * U, x.2.2.2 * U) = fst4 x * U := by
    have := fst4_scl u0 x
    have e : scl U x = (x.1 * U, x.2.1 * U, x.2.2.1 * U, x.2.2.2 * U) := by
      unfold scl
      rw [show U * x.1 = x.1 * U by grind, show U * x.2.1 = x.2.1 * U by grind, show U * x.2.2.1 = x.2.2.1 * U by grind, show U * x.2.2.2 = x.2.2.2 * U by grind]
    rw [← e, this]
    grind
  have sz : ∀ y : Gi, Nz n (y * g) → Nz n (y * U) := fun y hy => by
    unfold Nz at *
    rw [Gi.nm_mul] at hy ⊢
    rw [un]
    have := Gi.nm_pos g0
    have := y.nm_nn
    have := Int.mul_le_mul_of_nonneg_left (show 1 ≤ g.nm by omega) (show 0 ≤ y.nm by omega)
    omega
  refine ⟨⟨?_, by rw [ef]; exact qf⟩, ⟨g * U.cj, c0, ?_⟩, sz _ s1, sz _ s2, sz _ s3, sz _ s4⟩
  · obtain ⟨u, v, w, t, e⟩ := hd
    refine ⟨u * U.cj, v * U.cj, w * U.cj, t * U.cj, ?_⟩
    simp only
    have k : g * (u * x.1 + v * x.2.1 + w * x.2.2.1 + t * x.2.2.2) = g * 1 := by grind
    have k := Gi.cancel g0 k
    have : u * U.cj * (x.1 * U) + v * U.cj * (x.2.1 * U) + w * U.cj * (x.2.2.1 * U) + t * U.cj * (x.2.2.2 * U) = (u * x.1 + v * x.2.1 + w * x.2.2.1 + t * x.2.2.2) * (U * U.cj) := by grind
    rw [this, k, ui]
    grind
  · unfold scl
    simp only
    have k : ∀ y : Gi, y * g = g * U.cj * (y * U) := fun y => by
      have : g * U.cj * (y * U) = y * g * (U * U.cj) := by grind
      rw [this, ui]
      grind
    rw [← k, ← k, ← k, ← k]
theorem fm_of {n : Nat} {x : G4} {g : Gi} (g0 : g ≠ 0) (hd : ∃ u v w t, g = u * (x.1 * g) + v * (x.2.1 * g) + w * (x.2.2.1 * g) + t * (x.2.2.2 * g)) (f0 : fst4 x ≠ 0) (s1 : Nz n (x.1 * g)) (s2 : Nz n (x.2.1 * g)) (s3 : Nz n (x.2.2.1 * g)) (s4 : Nz n (x.2.2.2 * g)) :
    Fm n (x.1 * g, x.2.1 * g, x.2.2.1 * g, x.2.2.2 * g) (x.1 * guni (fst4 x), x.2.1 * guni (fst4 x), x.2.2.1 * guni (fst4 x), x.2.2.2 * guni (fst4 x)) := fm_of' (guni_nm _) (guni_qf f0) g0 hd s1 s2 s3 s4
/-- the numbers that are not 0 -/
def nzG : List Gi → List Gi
  | [] => []
  | x :: r => if x = 0 then nzG r else x :: nzG r
theorem nzG_head {x : G4} (h : fst4 x ≠ 0) : ∃ r, nzG [x.1, x.2.1, x.2.2.1, x.2.2.2] = fst4 x :: r := by
  unfold fst4 at *
  by_cases h1 : x.1 = 0
  · by_cases h2 : x.2.1 = 0
    · by_cases h3 : x.2.2.1 = 0
      · simp only [h1, h2, h3, ne_eq, not_true_eq_false, if_false] at h ⊢
        refine ⟨[], ?_⟩
        simp only [nzG, if_true, if_neg h]
      · simp only [h1, h2, h3, ne_eq, not_true_eq_false, not_false_eq_true, if_false, if_true] at h ⊢
        refine ⟨nzG [x.2.2.2], ?_⟩
        rw [nzG, if_pos rfl, nzG, if_pos rfl, nzG, if_neg h3]
    · simp only [h1, h2, ne_eq, not_true_eq_false, not_false_eq_true, if_false, if_true] at h ⊢
      refine ⟨nzG [x.2.2.1, x.2.2.2], ?_⟩
      rw [nzG, if_pos rfl, nzG, if_neg h2]
  · simp only [h1, ne_eq, not_false_eq_true, if_true] at h ⊢
    refine ⟨nzG [x.2.1, x.2.2.1, x.2.2.2], ?_⟩
    rw [nzG, if_neg h1]

theorem w_divisor_of_all {T : Tk} {n : Nat} {N : G4} {NS : D} {k : KD} (hN : NS.it? = some [gD N.1, gD N.2.1, gD N.2.2.1, gD N.2.2.2]) (s1 : Nz n N.1) (s2 : Nz n N.2.1) (s3 : Nz n N.2.2.1) (s4 : Nz n N.2.2.2) (hn : n ≤ 2000) (h : ∀ g, GD g N → Nz n g → k (gD g) T) : sm_divisor_of_all [.val NS] T k := by
  rw [e_divisor_of_all, b_divisor_of_all, k_ZERO]
  walk_at "evm"
  simp only [hN]
  refine ⟨by simp, ?_⟩
  rw [forL_c]
  walk_at "evm"
  have z0 : Nz n 0 := by unfold Nz; rw [Gi.nm_of_zero]; exact Int.pow_pos (by decide)
  refine w_divisor_of_two (a := 0) z0 s1 hn fun g1 h1 n1 => ?_
  walk_at "evm"
  rw [forL_c]
  walk_at "evm"
  refine w_divisor_of_two n1 s2 hn fun g2 h2 n2 => ?_
  walk_at "evm"
  rw [forL_c]
  walk_at "evm"
  refine w_divisor_of_two n2 s3 hn fun g3 h3 n3 => ?_
  walk_at "evm"
  rw [forL_c]
  walk_at "evm"
  refine w_divisor_of_two n3 s4 hn fun g4 h4 n4 => ?_
  walk_at "evm"
  rw [forL_n]
  walk_at "evm"
  exact h g4 (gd_of h1 h2 h3 h4) n4
theorem lc_nzK {A0 A1 A2 A3 A5 : Option SV} {K : List D → Tk → Prop} : ∀ (xs : List Gi) (c : Option SV) (acc : List D) (T : Tk), K (acc ++ (nzG xs).map gD) T →
    lcD [A0, A1, A2, A3, c, A5] (cN 4) (dTst (dOp (oF fNe) (dVar 4) (dC (.tup [.int 0, .int 0])))) (dVar 4) K (xs.map gD) acc T
  | [], c, acc, T, h => by
    rw [nzG, List.map_nil, List.append_nil] at h
    exact h
  | x :: xs, c, acc, T, h => by
    rw [List.map_cons]
    walk_at "evn"
    refine ⟨⟨ok_gD, ok_cx⟩, ?_⟩
    by_cases q : x = 0
    · rw [if_neg (by rw [q]; decide)]
      rw [nzG, if_pos q] at h
      exact lc_nzK xs _ _ _ h
    · rw [if_pos (by
        have : ¬(x.re = 0 ∧ x.im = 0) := fun z => q (Gi.eq0.mp z)
        simp only [Bool.and_eq_false_imp, decide_eq_true_eq, decide_eq_false_iff_not]
        first | exact fun z1 z2 => this ⟨z1, z2⟩ | simpa using this)]
      rw [nzG, if_neg q, List.map_cons] at h
      refine lc_nzK xs _ _ _ ?_
      rw [List.append_assoc]
      exact h
theorem fst4_zero {x : G4} {g : Gi} (h : fst4 (x.1 * g, x.2.1 * g, x.2.2.1 * g, x.2.2.2 * g) ≠ 0) : g ≠ 0 ∧ fst4 x ≠ 0 := by
  have g0 : g ≠ 0 := fun z => by
    subst z
    apply h
    have k : ∀ y : Gi, y * 0 = 0 := fun y => by grind
    unfold fst4
    simp only [k, ne_eq, not_true_eq_false, if_false]
  refine ⟨g0, fun z => h ?_⟩
  have := fst4_scl g0 x
  have e : scl g x = (x.1 * g, x.2.1 * g, x.2.2.1 * g, x.2.2.2 * g) := by
    unfold scl
    rw [show g * x.1 = x.1 * g by grind, show g * x.2.1 = x.2.1 * g by grind, show g * x.2.2.1 = x.2.2.1 * g by grind, show g * x.2.2.2 = x.2.2.2 * g by grind]
  rw [e, z] at this
  rw [this]
  grind
theorem fst4_nz {n : Nat} {x : G4} (s1 : Nz n x.1) (s2 : Nz n x.2.1) (s3 : Nz n x.2.2.1) (s4 : Nz n x.2.2.2) : Nz n (fst4 x) := by
  unfold fst4
  split
  · exact s1
  split
  · exact s2
  split
  · exact s3
  · exact s4
theorem w_dividedG {T : Tk} {n : Nat} {x g : Gi} {k : KD} (s : Nz n (x * g)) (sg : Nz n g) (g0 : g ≠ 0) (hn : n ≤ 2000) (h : k (gD x) T) : sm_divided [.val (gD (x * g)), .val (gD g)] T k := by
  refine w_divided (s.cz.mono (by omega)) (sg.cz.mono (by omega)) (Gi.nm_pos g0) ?_
  rw [cdivd_mulG g0]
  exact h

/-- a comprehension without a test, whose element is computed from the item alone -/
theorem lc_map {α : Type} {ρ : En} {c : dC1} {el : dE} {K : List D → Tk → Prop} {fi fo : α → D} : ∀ (xs : List α) (acc : List D) (T : Tk), (∀ x ∈ xs, ∃ ρ1, c (fi x) ρ = some ρ1 ∧ ∀ T (k : KD), k (fo x) T → el ρ1 T k) → K (acc ++ xs.map fo) T →
    lcD ρ c dYes el K (xs.map fi) acc T
  | [], acc, T, _, h => by
    rw [List.map_nil, List.append_nil] at h
    exact h
  | x :: xs, acc, T, hx, h => by
    obtain ⟨ρ1, e, q⟩ := hx x (List.mem_cons_self ..)
    rw [List.map_cons, lcD, e]
    show el ρ1 T _
    refine q _ _ ?_
    refine lc_map xs _ _ (fun y hy => hx y (List.mem_cons_of_mem _ hy)) ?_
    rw [List.append_assoc]
    exact h
theorem w_form_of {T : Tk} {n : Nat} {f : Int} {N : G4} {NS : D} {k : KD} (hN : NS.it? = some [gD N.1, gD N.2.1, gD N.2.2.1, gD N.2.2.2]) (s1 : Nz n N.1) (s2 : Nz n N.2.1) (s3 : Nz n N.2.2.1) (s4 : Nz n N.2.2.2) (hn : n ≤ 2000) (nz : fst4 N ≠ 0) (h : ∀ m, Fm n N m → k (mD f m) T) : sm_form_of [.val (.int f), .val NS] T k := by
  rw [e_form_of, b_form_of, k_ZERO]
  generalize e1 : dCall 2 sm_divided (aCons (dVar 4) (aCons (dVar 2) (aNil))) = el1
  generalize e2 : dCall 2 sm_times (aCons (dVar 4) (aCons (dVar 5) (aNil))) = el2
  walk_at "evm"
  refine w_divisor_of_all hN s1 s2 s3 s4 hn fun g gd ng => ?_
  obtain ⟨N1, N2, N3, N4⟩ := N
  obtain ⟨⟨x1, q1⟩, ⟨x2, q2⟩, ⟨x3, q3⟩, ⟨x4, q4⟩, u, v, w, t, es⟩ := gd
  simp only at q1 q2 q3 q4
  subst q1 q2 q3 q4
  obtain ⟨g0, f0⟩ := fst4_zero (x := (x1, x2, x3, x4)) nz
  have fin := h _ (fm_of (x := (x1, x2, x3, x4)) g0 ⟨u, v, w, t, es⟩ f0 s1 s2 s3 s4)
  have y1 := Nz.dvd (a := x1) g0 (by rw [show g * x1 = x1 * g by grind]; exact s1)
  have y2 := Nz.dvd (a := x2) g0 (by rw [show g * x2 = x2 * g by grind]; exact s2)
  have y3 := Nz.dvd (a := x3) g0 (by rw [show g * x3 = x3 * g by grind]; exact s3)
  have y4 := Nz.dvd (a := x4) g0 (by rw [show g * x4 = x4 * g by grind]; exact s4)
  have nf := fst4_nz (x := (x1, x2, x3, x4)) y1 y2 y3 y4
  obtain ⟨r, er⟩ := nzG_head f0
  simp only at er
  have nu : Nz 1 (guni (fst4 (x1, x2, x3, x4))) := by unfold Nz; rw [guni_nm]; decide
  walk_at "evm"
  simp only [hN]
  refine ⟨by simp, ?_⟩
  refine lc_map (fi := fun x => gD (x * g)) (fo := gD) [x1, x2, x3, x4] _ _ (fun x hx => ⟨_, rfl, fun T k hk => ?_⟩) ?_
  · have sx : Nz n (x * g) := by
      simp only [List.mem_cons, List.not_mem_nil, or_false] at hx
      rcases hx with rfl | rfl | rfl | rfl
      · exact s1
      · exact s2
      · exact s3
      · exact s4
    rw [← e1]
    walk_at "evm"
    exact w_dividedG (x := x) (g := g) sx ng g0 hn hk
  rw [List.nil_append, List.map_cons, List.map_cons, List.map_cons, List.map_cons, List.map_nil]
  walk_at "evm"
  refine lc_nzK [x1, x2, x3, x4] _ _ _ ?_
  rw [List.nil_append, er, List.map_cons]
  walk_at "evm"
  refine w_unit_for (nf.cz.mono (by omega)) fun p hp => ?_
  have ep : D.tup [.int p.1, .int p.2] = gD (guni (fst4 (x1, x2, x3, x4))) := by rw [hp]; rfl
  rw [ep]
  walk_at "evm"
  refine lc_map (fi := gD) (fo := fun x => gD (x * guni (fst4 (x1, x2, x3, x4)))) [x1, x2, x3, x4] _ _ (fun x hx => ⟨_, rfl, fun T k hk => ?_⟩) ?_
  · have sx : Nz n x := by
      simp only [List.mem_cons, List.not_mem_nil, or_false] at hx
      rcases hx with rfl | rfl | rfl | rfl
      · exact y1
      · exact y2
      · exact y3
      · exact y4
    rw [← e2]
    walk_at "evm"
    exact w_timesG sx.cz nu.cz (by omega) (by omega) hk
  rw [List.nil_append]
  walk_at "evm"
  first | exact fin | exact ⟨by simp, fin⟩ | exact ⟨by decide, fin⟩

theorem w_determinant {T : Tk} {n : Nat} {f : Int} {m : G4} {k : KD} (s1 : Nz n m.1) (s2 : Nz n m.2.1) (s3 : Nz n m.2.2.1) (s4 : Nz n m.2.2.2) (hn : n ≤ 2000) (h : k (gD (dtG m)) T) : sm_determinant [.val (mD f m)] T k := by
  rw [e_determinant, b_determinant]
  walk_at "evn"
  refine w_timesG s1.cz s4.cz (by omega) (by omega) ?_
  walk_at "evn"
  refine w_timesG s2.cz s3.cz (by omega) (by omega) ?_
  walk_at "evn"
  exact w_minusG h
theorem w_is_flag {T : Tk} {f : Int} {k : KD} (hf : f = 0 ∨ f = 1) (h : k (.bl true) T) : sm_is_flag [.val (.int f)] T k := by
  rw [e_is_flag, b_is_flag]
  walk_at "evn"
  refine w_is_whole ?_
  walk_at "evn"
  refine ⟨⟨ok_int, ok_cx⟩, ?_⟩
  rcases hf with rfl | rfl <;> simpa using h
theorem ok_mD {f : Int} {m : G4} : (mD f m).eqOk := ⟨rfl, rfl⟩
/-- a map as the program has it -/
structure Mq (n : Nat) (f : Int) (m : G4) : Prop where
  fl : f = 0 ∨ f = 1
  mp : Mp m
  dt : dtG m ≠ 0
  s1 : Nz n m.1
  s2 : Nz n m.2.1
  s3 : Nz n m.2.2.1
  s4 : Nz n m.2.2.2
theorem Mq.mono {l n : Nat} {f : Int} {m : G4} (h : Mq l f m) (q : l ≤ n) : Mq n f m := ⟨h.fl, h.mp, h.dt, h.s1.mono q, h.s2.mono q, h.s3.mono q, h.s4.mono q⟩
theorem one_ne : (1 : Gi) ≠ 0 := fun z => absurd (congrArg Gi.re z) (by decide)
theorem scl_one (m : G4) : scl 1 m = m := by
  obtain ⟨a, b, c, d⟩ := m
  unfold scl
  simp only [Prod.mk.injEq]
  refine ⟨?_, ?_, ?_, ?_⟩ <;> grind
theorem Mq.fm {n : Nat} {f : Int} {m : G4} (h : Mq n f m) : Fm n m m := ⟨h.mp, ⟨1, one_ne, (scl_one m).symm⟩, h.s1, h.s2, h.s3, h.s4⟩
theorem Fm.mq {n : Nat} {f : Int} {N m : G4} (h : Fm n N m) (hf : f = 0 ∨ f = 1) (d : dtG N ≠ 0) : Mq n f m := by
  obtain ⟨c, c0, e⟩ := h.c
  refine ⟨hf, h.mp, fun z => d ?_, h.s1, h.s2, h.s3, h.s4⟩
  rw [e, dt_scl, z]
  grind
theorem Fm.led {l n : Nat} {f : Int} {N m : G4} {q t : P3} (h : Fm l N m) (hl : Led n f N q t) : Led n f m q t := by
  obtain ⟨c, c0, e⟩ := h.c
  rw [e] at hl
  exact hl.scl c0
/-- along one another -/
theorem Fm.along {l n : Nat} {N N' m m' : G4} {c c' : Gi} (h : Fm l N m) (h' : Fm n N' m') (c0 : c ≠ 0) (c0' : c' ≠ 0) (e : scl c N = scl c' N') : m = m' := by
  obtain ⟨d, d0, k⟩ := h.c
  obtain ⟨d', d0', k'⟩ := h'.c
  rw [k, k'] at e
  have ss : ∀ (a b : Gi) (x : G4), scl a (scl b x) = scl (a * b) x := fun a b x => by
    unfold scl
    simp only [Prod.mk.injEq]
    refine ⟨?_, ?_, ?_, ?_⟩ <;> grind
  rw [ss, ss] at e
  exact mp_uniq h.mp h'.mp (Gi.mul_ne c0 d0) (Gi.mul_ne c0' d0') e

abbrev g1 : G4 := (1, 0, 0, 1)
theorem mp_g1 : Mp g1 := ⟨⟨1, 0, 0, 0, by simp only; grind⟩, by unfold Qf; decide⟩
theorem nz_01 {n : Nat} (h : 1 ≤ n) : Nz n 0 ∧ Nz n 1 := by
  have : (2 : Int) ^ 1 ≤ 2 ^ n := by exact_mod_cast Nat.pow_le_pow_right (n := 2) (by decide) h
  have e : (2 : Int) ^ 1 = 2 := rfl
  constructor
  · unfold Nz; rw [Gi.nm_of_zero]; omega
  · unfold Nz; show (1 : Int) * 1 + 0 * 0 < _; omega
theorem fm_g1 : Fm 1 g1 g1 := ⟨mp_g1, ⟨1, one_ne, (scl_one _).symm⟩, (nz_01 (Nat.le_refl _)).2, (nz_01 (Nat.le_refl _)).1, (nz_01 (Nat.le_refl _)).1, (nz_01 (Nat.le_refl _)).2⟩
theorem Fm.left {l n b : Nat} {f : Int} {m m' x : G4} (hm : Mq n f m) (h : Fm l (Bk f m) m') (h' : Fm b (Pr f m' m) x) : x = g1 := by
  obtain ⟨c, c0, e⟩ := h.c
  have k : scl (c * fl f 1) (Pr f m' m) = scl (fl f (dtG m)) g1 := by
    rw [← pr_scl, scl_one, ← e]
    exact (pr_back hm.fl m).1
  exact h'.along fm_g1 (Gi.mul_ne c0 (fl_ne one_ne)) (fl_ne hm.dt) k
theorem Fm.right {l n b : Nat} {f : Int} {m m' x : G4} (hm : Mq n f m) (h : Fm l (Bk f m) m') (h' : Fm b (Pr f m m') x) : x = g1 := by
  obtain ⟨c, c0, e⟩ := h.c
  have k : scl (1 * fl f c) (Pr f m m') = scl (dtG m) g1 := by
    rw [← pr_scl, scl_one, ← e]
    exact (pr_back hm.fl m).2
  exact h'.along fm_g1 (Gi.mul_ne one_ne (fl_ne c0)) hm.dt k
theorem Led.of_one {l n : Nat} {q t : P3} (hq : Pt l q) (h : Led n 0 g1 q t) : t = q := by
  have e : HG n t (zG q) (rG q) := by
    have := h
    unfold Led at this
    have e1 : apz g1 (fl 0 (zG q)) (rG q) = zG q := by unfold apz fl; rw [if_neg (by decide)]; simp only; grind
    have e2 : apw g1 (fl 0 (zG q)) (rG q) = rG q := by unfold apw fl; simp only; grind
    rw [e1, e2] at this
    exact this
  exact e.uniq (HG.self hq)
/-- there and back -/
theorem Led.back {a b l n c : Nat} {f : Int} {m m' : G4} {q t s : P3} (hm : Mq n f m) (h : Fm l (Bk f m) m') (hm' : dtG m' ≠ 0) (hq : Pt c q) (h1 : Led a f m q t) (h2 : Led b f m' t s) : s = q := by
  have k := Led.two (a := 0) hm' hm.fl hm.fl h1 h2
  have e0 : ((f + f) % 2 : Int) = 0 := by rcases hm.fl with e | e <;> rw [e] <;> rfl
  rw [e0] at k
  obtain ⟨d, d0, e⟩ := h.c
  have k1 : G.scl (d * fl f 1) (Pr f m' m) = G.scl (fl f (dtG m)) g1 := by
    rw [← pr_scl, scl_one, ← e]
    exact (pr_back hm.fl m).1
  have k2 : Led b 0 (G.scl (d * fl f 1) (Pr f m' m)) q s := by
    unfold Led at k ⊢
    rw [(ap_scl _ _ _ _).1, (ap_scl _ _ _ _).2]
    have d1 := Gi.mul_ne d0 (fl_ne (f := f) one_ne)
    refine k.tr (fun ⟨x, y⟩ => k.nz ⟨(Gi.mul_zero' x).resolve_left d1, (Gi.mul_zero' y).resolve_left d1⟩) (by grind)
  rw [k1] at k2
  exact (k2.scl (fl_ne hm.dt)).of_one hq
theorem dt_bk {f : Int} {m : G4} (h : dtG m ≠ 0) : dtG (Bk f m) ≠ 0 := by
  unfold Bk
  rw [dt_fl, dt_adj]
  exact fl_ne h
structure N4 (n : Nat) (m : G4) : Prop where
  s1 : Nz n m.1
  s2 : Nz n m.2.1
  s3 : Nz n m.2.2.1
  s4 : Nz n m.2.2.2
theorem Mq.n4 {n : Nat} {f : Int} {m : G4} (h : Mq n f m) : N4 n m := ⟨h.s1, h.s2, h.s3, h.s4⟩
theorem Mq.bk {n l : Nat} {f : Int} {m m' : G4} (h : Mq n f m) (q : Fm l (Bk f m) m') : Mq l f m' := q.mq h.fl (dt_bk h.dt)
theorem lite_gD {n : Nat} {a : Gi} (h : Nz n a) (l : n ≤ 1900) : (gD a).lite := lite_cx h.cz l
theorem lite_mD {n : Nat} {f : Int} {m : G4} (hf : f = 0 ∨ f = 1) (h : N4 n m) (l : n ≤ 1900) : (mD f m).lite :=
  lite_tup (liteL_cons (Sz.lite (n := 1) (by rcases hf with rfl | rfl <;> unfold Sz <;> decide) (by decide)) (liteL_cons (lite_gD h.s1 l) (liteL_cons (lite_gD h.s2 l) (liteL_cons (lite_gD h.s3 l) (liteL_cons (lite_gD h.s4 l) liteL_nil)))))

theorem w_is_map {T : Tk} {n : Nat} {f : Int} {m : G4} {k : KD} (hm : Mq n f m) (hn : n ≤ 2000) (h : k (.bl true) T) : sm_is_map [.val (mD f m)] T k := by
  rw [e_is_map, b_is_map, k_ZERO]
  walk_at "evn"
  refine w_is_flag hm.fl ?_
  walk_at "evn"
  refine w_is_complex ?_
  walk_at "evn"
  refine w_is_complex ?_
  walk_at "evn"
  refine w_is_complex ?_
  walk_at "evn"
  refine w_is_complex ?_
  walk_at "evn"
  rw [if_neg (by decide)]
  refine ⟨⟨ok_pDs [], ok_pDs []⟩, ?_⟩
  refine w_determinant hm.s1 hm.s2 hm.s3 hm.s4 hn ?_
  walk_at "evn"
  refine ⟨⟨ok_cx, ok_cx⟩, ?_⟩
  rw [if_neg (fun z => hm.dt (Gi.eq0.mp z))]
  refine w_form_of (NS := .tup [gD m.1, gD m.2.1, gD m.2.2.1, gD m.2.2.2]) rfl hm.s1 hm.s2 hm.s3 hm.s4 hn (dt_fst hm.dt) fun m' hm' => ?_
  obtain rfl := hm.fm.uniq hm'
  walk_at "evn"
  refine ⟨⟨ok_mD, ok_mD⟩, ?_⟩
  have e : (decide True) = true := rfl
  simpa only [and_self, decide_true] using h
theorem w__law_timesG {T : Tk} {m n : Nat} {a b : Gi} {k : KD} (ha : Cz m (a.re, a.im)) (hb : Cz n (b.re, b.im)) (hm : m ≤ 100000) (hn : n ≤ 100000) (h : k (gD (a * b)) T) : sm__law_times [.val (gD a), .val (gD b)] T k :=
  w__law_times (ha.mono hm) (hb.mono hn) fun p hp => by subst hp; exact h
theorem w__law_lessG {T : Tk} {a b : Gi} {k : KD} (h : k (gD (a - b)) T) : sm__law_less [.val (gD a), .val (gD b)] T k := w__law_less fun p hp => by subst hp; exact h
theorem w__law_starG {T : Tk} {a : Gi} {k : KD} (h : k (gD a.cj) T) : sm__law_star [.val (gD a)] T k := w__law_star h
theorem w__law_sizeG {T : Tk} {n : Nat} {a : Gi} {k : KD} (ha : Cz n (a.re, a.im)) (hn : n ≤ 100000) (h : k (.int a.nm) T) : sm__law_size [.val (gD a)] T k := w__law_size (ha.mono hn) h
theorem w__law_overG {T : Tk} {n : Nat} {x g : Gi} {k : KD} (s : Nz n (x * g)) (sg : Nz n g) (g0 : g ≠ 0) (hn : n ≤ 2000) (h : k (gD x) T) : sm__law_over [.val (gD (x * g)), .val (gD g)] T k := by
  rw [e__law_over, b__law_over]
  walk_at "evn"
  have p := Gi.nm_pos g0
  refine w__law_sizeG sg.cz (by omega) ?_
  walk_at "evn"
  rw [if_neg (by omega)]
  refine w__law_starG ?_
  walk_at "evn"
  refine w__law_timesG s.cz sg.cj.cz (by omega) (by omega) ?_
  have e1 : (x * g * g.cj).re = x.re * g.nm := by simp only [Gi.mul_re, Gi.mul_im, Gi.cj, Gi.nm]; grind
  have e2 : (x * g * g.cj).im = x.im * g.nm := by simp only [Gi.mul_re, Gi.mul_im, Gi.cj, Gi.nm]; grind
  have e : gD (x * g * g.cj) = .tup [.int (x.re * g.nm), .int (x.im * g.nm)] := by show D.tup [.int (x * g * g.cj).re, .int (x * g * g.cj).im] = _; rw [e1, e2]
  rw [e]
  walk_at "evn"
  refine ⟨p, ?_⟩
  rw [Int.mul_emod_left, Int.mul_emod_left]
  have sn : Sz 9000 g.nm := (sz_nm sg).mono (by omega)
  rw [if_pos rfl]
  refine ⟨p, ?_⟩
  rw [if_pos rfl]
  rw [Int.mul_ediv_cancel _ (by omega), Int.mul_ediv_cancel _ (by omega)]
  exact ⟨sn.divOk (by decide) p, sn.divOk (by decide) p, h⟩
theorem w__law_quarterG {T : Tk} {f : Gi} {k : KD} (f0 : f ≠ 0) (h : ∀ u, u.nm = 1 → Qf (u * f) → k (gD (u * f)) T) : sm__law_quarter [.val (gD f)] T k := by
  rw [e__law_quarter, b__law_quarter]
  walk_at "evn"
  have f0' : ¬(f.re = 0 ∧ f.im = 0) := fun z => f0 (Gi.eq0.mp z)
  have key : ∀ (u : Gi) (x y : Int), u.nm = 1 → (u * f).re = x → (u * f).im = y → 0 < x → 0 ≤ y → k (.tup [.int x, .int y]) T := fun u x y hu ex ey hx hy => by
    subst ex ey
    exact h u hu ⟨hx, hy⟩
  have h1 := key ⟨1, 0⟩ _ _ rfl rfl rfl
  have h2 := key ⟨0, 1⟩ _ _ rfl rfl rfl
  have h3 := key ⟨-1, 0⟩ _ _ rfl rfl rfl
  have h4 := key ⟨0, -1⟩ _ _ rfl rfl rfl
  simp only [Gi.mul_re, Gi.mul_im, Int.one_mul, Int.zero_mul, Int.neg_mul, Int.sub_zero, Int.add_zero, Int.zero_sub, Int.zero_add, Int.neg_neg, Int.sub_neg] at h1 h2 h3 h4
  simp only [Int.zero_sub, Int.neg_neg]
  split
  · rename_i c; exact h1 c.1 c.2
  split
  · rename_i c; exact h2 c.1 c.2
  split
  · rename_i c; exact h3 c.1 c.2
  split
  · rename_i c; exact h4 c.1 c.2
  · exfalso; omega
theorem common_in {N : dEnds} {T : Tk} {A0 A1 A2 : Option SV} {a b : Gi} {n : Nat} (hn : n ≤ 1999)
    (h : ∀ g x4 x5 x6 x7 x8 x9, G2 g a b → Nz n g → N.nx [A0, A1, A2, some (.val (gD g)), x4, x5, x6, x7, x8, x9] T) :
    ∀ (j : Nat) (s : Int) (c d : Gi) (x5 x6 x7 x8 x9 : Option SV), d.nm < 2 ^ j → Nz n c → Nz n d → (∀ g, G2 g c d → G2 g a b) →
    forL (gN 5) (sSeq (sAsg (dCall 1 sm__law_size (aCons (dVar 4) (aNil))) (gN 6)) (sSeq (sIf (dTst (dOp (oF fEq) (dVar 6) (dC (.int 0)))) ((fun k ρ T => k.bk ρ T)) ((fun k ρ T => k.nx ρ T))) (sSeq (sAsg (dCall 2 sm__law_times (aCons (dVar 3) (aCons (dCall 1 sm__law_star (aCons (dVar 4) (aNil))) (aNil)))) (gTL 2 (gsCons (gN 7) (gsCons (gN 8) (gsNil))))) (sSeq (sAsg (dTup (aCons (dOp (oF fDiv) (dOp (oF fAdd) (dOp (oF fMul) (dC (.int 2)) (dVar 7)) (dVar 6)) (dOp (oF fMul) (dC (.int 2)) (dVar 6))) (aCons (dOp (oF fDiv) (dOp (oF fAdd) (dOp (oF fMul) (dC (.int 2)) (dVar 8)) (dVar 6)) (dOp (oF fMul) (dC (.int 2)) (dVar 6))) (aNil)))) (gN 9)) (sPar 3 4 (aCons (dVar 4) (aCons (dCall 2 sm__law_less (aCons (dVar 3) (aCons (dCall 2 sm__law_times (aCons (dVar 9) (aCons (dVar 4) (aNil)))) (aNil)))) (aNil)))))))) N (intsL s j) [A0, A1, A2, some (.val (gD c)), some (.val (gD d)), x5, x6, x7, x8, x9] T
  | 0, s, c, d, x5, x6, x7, x8, x9, hd, nc, nd, tr => by
    have d0 : d = 0 := Gi.nm_zero (by have := d.nm_nn; have e : (2 : Int) ^ 0 = 1 := rfl; omega)
    subst d0
    exact h c _ _ _ _ _ _ (tr c (G2.zero c)) nc
  | j + 1, s, c, d, x5, x6, x7, x8, x9, hd, nc, nd, tr => by
    rw [intsL, forL_c]
    have ih := fun c d x5 x6 x7 x8 x9 => common_in hn h j (s + 1) c d x5 x6 x7 x8 x9
    generalize forL (gN 5) (sSeq (sAsg (dCall 1 sm__law_size (aCons (dVar 4) (aNil))) (gN 6)) (sSeq (sIf (dTst (dOp (oF fEq) (dVar 6) (dC (.int 0)))) ((fun k ρ T => k.bk ρ T)) ((fun k ρ T => k.nx ρ T))) (sSeq (sAsg (dCall 2 sm__law_times (aCons (dVar 3) (aCons (dCall 1 sm__law_star (aCons (dVar 4) (aNil))) (aNil)))) (gTL 2 (gsCons (gN 7) (gsCons (gN 8) (gsNil))))) (sSeq (sAsg (dTup (aCons (dOp (oF fDiv) (dOp (oF fAdd) (dOp (oF fMul) (dC (.int 2)) (dVar 7)) (dVar 6)) (dOp (oF fMul) (dC (.int 2)) (dVar 6))) (aCons (dOp (oF fDiv) (dOp (oF fAdd) (dOp (oF fMul) (dC (.int 2)) (dVar 8)) (dVar 6)) (dOp (oF fMul) (dC (.int 2)) (dVar 6))) (aNil)))) (gN 9)) (sPar 3 4 (aCons (dVar 4) (aCons (dCall 2 sm__law_less (aCons (dVar 3) (aCons (dCall 2 sm__law_times (aCons (dVar 9) (aCons (dVar 4) (aNil)))) (aNil)))) (aNil)))))))) N (intsL (s + 1) j) = F at ih ⊢
    walk_at "evm"
    refine w__law_sizeG nd.cz (by omega) ?_
    walk_at "evm"
    by_cases d0 : d = 0
    · rw [if_pos (by rw [d0]; rfl)]
      subst d0
      exact h c _ _ _ _ _ _ (tr c (G2.zero c)) nc
    have p := Gi.nm_pos d0
    rw [if_neg (by omega)]
    refine w__law_starG ?_
    walk_at "evm"
    refine w__law_timesG nc.cz nd.cj.cz (by omega) (by omega) ?_
    walk_at "evm"
    have hs : Sz 8000 d.nm := (sz_nm nd).mono (by omega)
    have dv := ((show Sz 2 2 by unfold Sz; decide).mul hs)
    refine ⟨lit_mul (by decide), lit_mul (by decide), dv.divOk (by decide) (by omega), lit_mul (by decide), lit_mul (by decide), dv.divOk (by decide) (by omega), ?_⟩
    have lt := nearG_nm (a := c) d0
    have nn := (c - nearG c d * d).nm_nn
    have h2 : Nz n (c - nearG c d * d) := by
      unfold Nz at nd ⊢
      omega
    have nq : Nz (n + 2) (nearG c d) := by
      refine Nz.dvd d0 ?_
      have e : d * nearG c d = c + -(c - nearG c d * d) := by grind
      rw [e]
      exact nc.add h2.neg
    refine w__law_timesG (a := nearG c d) (b := d) nq.cz nd.cz (by omega) (by omega) ?_
    walk_at "evm"
    refine w__law_lessG ?_
    walk_at "evm"
    refine ih _ _ _ _ _ _ _ ?_ nd h2 fun g hg => tr g (G2.step hg)
    have e : (2 : Int) ^ (j + 1) = 2 * 2 ^ j := by rw [Int.pow_succ, Int.mul_comm]
    omega

theorem w__law_common {T : Tk} {n : Nat} {N : G4} {NS : D} {k : KD} (hN : NS.it? = some [gD N.1, gD N.2.1, gD N.2.2.1, gD N.2.2.2]) (s1 : Nz n N.1) (s2 : Nz n N.2.1) (s3 : Nz n N.2.2.1) (s4 : Nz n N.2.2.2) (hn : n ≤ 1999) (h : ∀ g, GD g N → Nz n g → k (gD g) T) : sm__law_common [.val NS] T k := by
  have z0 : Nz n 0 := by unfold Nz; rw [Gi.nm_of_zero]; exact Int.pow_pos (by decide)
  have sm : ∀ d : Gi, Nz n d → d.nm < 2 ^ 2000 := fun d hd => (hd.mono (show n ≤ 2000 by omega))
  rw [e__law_common, b__law_common]
  walk_at "wk"
  rw [hN]
  walk_at "wk"
  refine common_in hn (fun g1 x4 x5 x6 x7 x8 x9 h1 n1 => ?_) _ 0 0 N.1 _ _ _ _ _ (sm _ s1) z0 s1 (fun g hg => hg)
  walk_at "wk"
  refine common_in hn (fun g2 x4 x5 x6 x7 x8 x9 h2 n2 => ?_) _ 0 g1 N.2.1 _ _ _ _ _ (sm _ s2) n1 s2 (fun g hg => hg)
  walk_at "wk"
  refine common_in hn (fun g3 x4 x5 x6 x7 x8 x9 h3 n3 => ?_) _ 0 g2 N.2.2.1 _ _ _ _ _ (sm _ s3) n2 s3 (fun g hg => hg)
  walk_at "wk"
  refine common_in hn (fun g4 x4 x5 x6 x7 x8 x9 h4 n4 => ?_) _ 0 g3 N.2.2.2 _ _ _ _ _ (sm _ s4) n3 s4 (fun g hg => hg)
  walk_at "wk"
  exact h g4 (gd_of h1 h2 h3 h4) n4

theorem lc_nzL' {A0 A1 A2 A3 A5 A6 : Option SV} {K : List D → Tk → Prop} : ∀ (xs : List Gi) (c : Option SV) (acc : List D) (T : Tk), K (acc ++ (nzG xs).map gD) T →
    lcD [A0, A1, A2, A3, c, A5, A6] (cN 4) (dTst (dOp (oF fNe) (dVar 4) (dTup (aCons (dC (.int 0)) (aCons (dC (.int 0)) aNil))))) (dVar 4) K (xs.map gD) acc T
  | [], c, acc, T, h => by
    rw [nzG, List.map_nil, List.append_nil] at h
    exact h
  | x :: xs, c, acc, T, h => by
    show lcK _ _ _ _ _ (D.tup [.int x.re, .int x.im] :: xs.map gD) _ _
    walk_at "wk"
    by_cases q : x = 0
    · refine iteB_p (by rw [q]; rfl) ?_
      rw [nzG, if_pos q] at h
      exact lc_nzL' xs _ _ _ h
    · refine iteB_n (by
        have : ¬(x.re = 0 ∧ x.im = 0) := fun z => q (Gi.eq0.mp z)
        simpa using this) ?_
      rw [nzG, if_neg q, List.map_cons] at h
      walk_at "wk"
      refine lc_nzL' xs _ _ _ ?_
      rw [List.append_assoc]
      exact h
theorem w__law_map {T : Tk} {n : Nat} {f : Int} {N : G4} {NS : D} {k : KD} (hN : NS.it? = some [gD N.1, gD N.2.1, gD N.2.2.1, gD N.2.2.2]) (s1 : Nz n N.1) (s2 : Nz n N.2.1) (s3 : Nz n N.2.2.1) (s4 : Nz n N.2.2.2) (hn : n ≤ 1999) (nz : fst4 N ≠ 0) (h : ∀ m, Fm n N m → k (mD f m) T) : sm__law_map [.val (.int f), .val NS] T k := by
  rw [e__law_map, b__law_map]
  walk_at "wk"
  refine w__law_common hN s1 s2 s3 s4 hn fun g gd ng => ?_
  obtain ⟨N1, N2, N3, N4⟩ := N
  obtain ⟨⟨x1, q1⟩, ⟨x2, q2⟩, ⟨x3, q3⟩, ⟨x4, q4⟩, u, v, w, t, es⟩ := gd
  simp only at q1 q2 q3 q4
  subst q1 q2 q3 q4
  obtain ⟨g0, f0⟩ := fst4_zero (x := (x1, x2, x3, x4)) nz
  have y1 := Nz.dvd (a := x1) g0 (by rw [show g * x1 = x1 * g by grind]; exact s1)
  have y2 := Nz.dvd (a := x2) g0 (by rw [show g * x2 = x2 * g by grind]; exact s2)
  have y3 := Nz.dvd (a := x3) g0 (by rw [show g * x3 = x3 * g by grind]; exact s3)
  have y4 := Nz.dvd (a := x4) g0 (by rw [show g * x4 = x4 * g by grind]; exact s4)
  have nf := fst4_nz (x := (x1, x2, x3, x4)) y1 y2 y3 y4
  obtain ⟨r, er⟩ := nzG_head f0
  simp only at er
  walk_at "wk"
  rw [hN]
  walk_at "wk"
  refine w__law_overG s1 ng g0 (by omega) ?_
  walk_at "wk"
  refine w__law_overG s2 ng g0 (by omega) ?_
  walk_at "wk"
  refine w__law_overG s3 ng g0 (by omega) ?_
  walk_at "wk"
  refine w__law_overG s4 ng g0 (by omega) ?_
  walk_at "wkn"
  refine lc_nzL' [x1, x2, x3, x4] _ _ _ ?_
  rw [er]
  walk_at "wk"
  refine w__law_quarterG f0 fun U un qf => ?_
  have nU : Nz 1 U := by unfold Nz; rw [un]; decide
  have nUf : Nz (1 + n) (U * fst4 (x1, x2, x3, x4)) := nU.mul nf
  walk_at "wk"
  refine w__law_overG (x := U) (g := fst4 (x1, x2, x3, x4)) (n := 1 + n) nUf (nf.mono (by omega)) f0 (by omega) ?_
  have fin := h _ (fm_of' (x := (x1, x2, x3, x4)) (U := U) un (by rw [show fst4 (x1, x2, x3, x4) * U = U * fst4 (x1, x2, x3, x4) by grind]; exact qf) g0 ⟨u, v, w, t, es⟩ s1 s2 s3 s4)
  walk_at "wk"
  refine w__law_timesG y1.cz nU.cz (by omega) (by omega) ?_
  walk_at "wk"
  refine w__law_timesG y2.cz nU.cz (by omega) (by omega) ?_
  walk_at "wk"
  refine w__law_timesG y3.cz nU.cz (by omega) (by omega) ?_
  walk_at "wk"
  refine w__law_timesG y4.cz nU.cz (by omega) (by omega) ?_
  walk_at "wk"
  exact fin

theorem nz_of {n : Nat} {a b : Int} (h : Sz n a) (q : Sz n b) : Nz (2 * n + 2) ⟨a, b⟩ := by
  have h1 : Sz (n + n + 1) (a * a + b * b) := ((h.mul h).add (q.mul q)).mono (by omega)
  have nn := Gi.nm_nn ⟨a, b⟩
  unfold Nz
  unfold Sz at h1
  have e : (⟨a, b⟩ : Gi).nm = a * a + b * b := rfl
  rw [e] at nn ⊢
  have l : (2 : Int) ^ (n + n + 1) ≤ 2 ^ (2 * n + 2) := by exact_mod_cast Nat.pow_le_pow_right (n := 2) (by decide) (by omega)
  have h2 : ((a * a + b * b).natAbs : Int) < 2 ^ (n + n + 1) := by exact_mod_cast h1
  omega
theorem dec_gi {a : Gi} : (decide (a.re = 0) && decide (a.im = 0)) = decide (a = 0) := by
  by_cases q : a = 0
  · rw [q]; rfl
  · have : ¬(a.re = 0 ∧ a.im = 0) := fun z => q (Gi.eq0.mp z)
    rw [decide_eq_false q]
    simpa using this
theorem w__law_little {T : Tk} {k : KD} (hT : TkOk T) (h : ∀ (a : Gi) T', Nz 82 a → TkOk T' → k (gD a) T') : sm__law_little [.tank] T k := by
  rw [e__law_little, b__law_little]
  walk_at "wk"
  refine w__law_small hT fun a T1 ha hT1 => ?_
  walk_at "wk"
  refine w__law_small hT1 fun b T2 hb hT2 => ?_
  walk_at "wk"
  exact h ⟨a, b⟩ T2 (nz_of ha hb) hT2
theorem w__law_det {T : Tk} {n : Nat} {N : G4} {k : KD} (h4 : N4 n N) (hn : n ≤ 50000) (h : k (gD (dtG N)) T) : sm__law_det [.val (.lst [gD N.1, gD N.2.1, gD N.2.2.1, gD N.2.2.2])] T k := by
  rw [e__law_det, b__law_det]
  walk_at "wk"
  refine w__law_timesG h4.s1.cz h4.s4.cz (by omega) (by omega) ?_
  walk_at "wk"
  refine w__law_timesG h4.s2.cz h4.s3.cz (by omega) (by omega) ?_
  walk_at "wk"
  exact w__law_lessG h
theorem four_in {N : dEnds} {way : Int} (ret : ∀ (M : G4) (i : Option SV) (T : Tk), TkOk T → N4 82 M → dtG M ≠ 0 → N.rt (.lst [gD M.1, gD M.2.1, gD M.2.2.1, gD M.2.2.2]) T)
    (nx : ∀ i c T, TkOk T → N.nx [some .tank, some (.val (.int way)), i, c] T) :
    ∀ (j : Nat) (s : Int) (i c : Option SV) (T : Tk), TkOk T → forL (gN 2) (sSeq (sOwn 3 (aCons (dCall 1 sm__law_little (aTank 0 (aNil))) (aCons (dCall 1 sm__law_little (aTank 0 (aNil))) (aCons (dCall 1 sm__law_little (aTank 0 (aNil))) (aCons (dCall 1 sm__law_little (aTank 0 (aNil))) (aNil)))))) (sSeq (sIf (dTst (dOp (oF fEq) (dVar 1) (dC (.int 0)))) (sAsg (dTup (aCons (dTup (aCons (dC (.int 1)) (aCons (dC (.int 0)) (aNil)))) (aCons (dTup (aCons (dC (.int 0)) (aCons (dC (.int 0)) (aNil)))) (aCons (dTup (aCons (dC (.int 1)) (aCons (dC (.int 0)) (aNil)))) (aNil))))) (gTL 3 (gsCons (gOs 3 (dC (.int 0))) (gsCons (gOs 3 (dC (.int 2))) (gsCons (gOs 3 (dC (.int 3))) (gsNil)))))) ((fun k ρ T => k.nx ρ T))) (sSeq (sIf (dTst (dOp (oF fEq) (dVar 1) (dC (.int 1)))) (sAsg (dTup (aCons (dTup (aCons (dC (.int 0)) (aCons (dC (.int 0)) (aNil)))) (aCons (dTup (aCons (dC (.int 0)) (aCons (dC (.int 0)) (aNil)))) (aNil)))) (gTL 2 (gsCons (gOs 3 (dC (.int 1))) (gsCons (gOs 3 (dC (.int 2))) (gsNil))))) ((fun k ρ T => k.nx ρ T))) (sSeq (sIf (dTst (dOp (oF fEq) (dVar 1) (dC (.int 2)))) (sAsg (dTup (aCons (dTup (aCons (dC (.int 0)) (aCons (dC (.int 0)) (aNil)))) (aCons (dTup (aCons (dC (.int 0)) (aCons (dC (.int 0)) (aNil)))) (aNil)))) (gTL 2 (gsCons (gOs 3 (dC (.int 0))) (gsCons (gOs 3 (dC (.int 3))) (gsNil))))) ((fun k ρ T => k.nx ρ T))) (sIf (dViewT 3 (dTst (dOp (oF fNe) (dCall 1 sm__law_det (aCons (dVar 3) (aNil))) (dTup (aCons (dC (.int 0)) (aCons (dC (.int 0)) (aNil))))))) (sFrq 3 (sRet (dVar 3))) ((fun k ρ T => k.nx ρ T))))))) N (intsL s j) [some .tank, some (.val (.int way)), i, c] T
  | 0, s, i, c, T, hT => nx i c T hT
  | j + 1, s, i, c, T, hT => by
    have ih := four_in ret nx j (s + 1)
    rw [intsL, forL_c]
    walk_at "wk"
    refine w__law_little hT fun a T1 ha hT1 => ?_
    walk_at "wk"
    refine w__law_little hT1 fun b T2 hb hT2 => ?_
    walk_at "wk"
    refine w__law_little hT2 fun c T3 hc hT3 => ?_
    walk_at "wk"
    refine w__law_little hT3 fun d T4 hd hT4 => ?_
    walk_at "wk"
    have z0 := nz_01 (n := 82) (by decide)
    have tail : ∀ (M : G4) (x y : Prop), N4 82 M → (dtG M ≠ 0 → x) → y → iteB (decide ((dtG M).re = 0) && decide ((dtG M).im = 0)) y x := by
      intro M x y hM hx hy
      rw [dec_gi]
      by_cases d0 : dtG M = 0
      · exact iteB_p (by simp [d0]) hy
      · exact iteB_n (by simp [d0]) (hx d0)
    by_cases w0 : way = 0
    · subst w0
      walk_at "wk"
      refine w__law_det (N := (1, b, 0, 1)) ⟨z0.2, hb, z0.1, z0.2⟩ (by decide) ?_
      walk_at "wk"
      refine ⟨hT4.noL, tail (1, b, 0, 1) _ _ ⟨z0.2, hb, z0.1, z0.2⟩ (fun d0 => ?_) ?_⟩
      · walk_at "wk"
        exact ret (1, b, 0, 1) (some (.val (.int s))) T4 hT4 ⟨z0.2, hb, z0.1, z0.2⟩ d0
      · exact ih _ _ _ hT4
    refine iteB_n (by simpa using w0) ?_
    by_cases w1 : way = 1
    · subst w1
      walk_at "wk"
      refine w__law_det (N := (a, 0, 0, d)) ⟨ha, z0.1, z0.1, hd⟩ (by decide) ?_
      walk_at "wk"
      refine ⟨hT4.noL, tail (a, 0, 0, d) _ _ ⟨ha, z0.1, z0.1, hd⟩ (fun d0 => ?_) ?_⟩
      · walk_at "wk"
        exact ret (a, 0, 0, d) (some (.val (.int s))) T4 hT4 ⟨ha, z0.1, z0.1, hd⟩ d0
      · exact ih _ _ _ hT4
    walk_at "wk"
    refine iteB_n (by simpa using w1) ?_
    by_cases w2 : way = 2
    · subst w2
      walk_at "wk"
      refine w__law_det (N := (0, b, c, 0)) ⟨z0.1, hb, hc, z0.1⟩ (by decide) ?_
      walk_at "wk"
      refine ⟨hT4.noL, tail (0, b, c, 0) _ _ ⟨z0.1, hb, hc, z0.1⟩ (fun d0 => ?_) ?_⟩
      · walk_at "wk"
        exact ret (0, b, c, 0) (some (.val (.int s))) T4 hT4 ⟨z0.1, hb, hc, z0.1⟩ d0
      · exact ih _ _ _ hT4
    walk_at "wk"
    refine iteB_n (by simpa using w2) ?_
    walk_at "wk"
    refine w__law_det (N := (a, b, c, d)) ⟨ha, hb, hc, hd⟩ (by decide) ?_
    walk_at "wk"
    refine ⟨hT4.noL, tail (a, b, c, d) _ _ ⟨ha, hb, hc, hd⟩ (fun d0 => ?_) ?_⟩
    · walk_at "wk"
      exact ret (a, b, c, d) (some (.val (.int s))) T4 hT4 ⟨ha, hb, hc, hd⟩ d0
    · exact ih _ _ _ hT4
theorem w__law_four {T : Tk} {k : KD} (hT : TkOk T) (h : ∀ (N : G4) T', N4 82 N → dtG N ≠ 0 → TkOk T' → k (.lst [gD N.1, gD N.2.1, gD N.2.2.1, gD N.2.2.2]) T') : sm__law_four [.tank] T k := by
  rw [e__law_four, b__law_four]
  walk_at "wk"
  refine w__law_draw hT (by decide) (by decide) fun way T1 h0 h1 hT1 => ?_
  walk_at "wkn"
  refine four_in (fun M i T hT hM d => h M T hM d hT) (fun i c T hT => ?_) 3 0 none none T1 hT1
  walk_at "wk"
  have z0 := nz_01 (n := 82) (by decide)
  refine h (1, ⟨2, 1⟩, 0, 1) T ⟨z0.2, ?_, z0.1, z0.2⟩ ?_ hT
  · unfold Nz; decide
  · exact fun z => absurd (congrArg Gi.re z) (by decide)
theorem Led.pt {n : Nat} {f : Int} {m : G4} {q t : P3} (h : Led n f m q t) : Pt n t := HG.pt h
theorem Mq.lite {n : Nat} {f : Int} {m : G4} (h : Mq n f m) (l : n ≤ 1900) : (mD f m).lite := lite_mD h.fl h.n4 l
theorem dt_g1 : dtG g1 ≠ 0 := fun z => absurd (congrArg Gi.re z) (by decide)
theorem Mq.g1 : Mq 1 0 L2.G.g1 := fm_g1.mq (.inl rfl) dt_g1

def isI : D → Bool
  | .int _ => true
  | _ => false
def Pln : D → Prop
  | .obj _ _ _ => False
  | .ref _ => False
  | _ => True
def isW (n : Int) : D → Bool
  | .tup xs => decide ((xs.length : Int) = n) && xs.all isI
  | _ => false
structure VOk (d : D) : Prop where
  pln : Pln d
  len : ∀ xs, d = .tup xs → xs.length ≤ 1000
  el : ∀ xs, d = .tup xs → ∀ x ∈ xs, okN 3 x
  sz : ∀ xs, d = .tup xs → ∀ i, D.int i ∈ xs → Sz 100 i
theorem okN_pln {n : Nat} {d : D} (h : okN n d) : Pln d := by cases d <;> first | exact trivial | simp only [okN] at h
theorem ok_okN {n : Nat} {d : D} (h : okN n d) (l : n ≤ 64) : d.eqOk := by
  obtain ⟨h1, h2, h3⟩ := okN_ok h
  refine ⟨h1, ?_⟩
  unfold SeqAt.shaped
  rw [h2, Bool.true_and, decide_eq_true_eq]
  omega
theorem okL_of {n : Nat} : ∀ {xs : List D}, (∀ x ∈ xs, okN n x) → okL n xs
  | [], _ => by simp only [okL]
  | x :: xs, h => by
    simp only [okL]
    exact ⟨h x List.mem_cons_self, okL_of fun y hy => h y (List.mem_cons_of_mem _ hy)⟩
theorem bls_all : ∀ xs : List D, bls? (xs.map fun x => D.bl (isI x)) = some (xs.map isI)
  | [] => rfl
  | x :: xs => by
    rw [List.map_cons, List.map_cons]
    simp only [bls?, bls_all xs, Option.map_some]
theorem all_isI (xs : List D) : (xs.map isI).all _root_.id = xs.all isI := by
  rw [List.all_map]
  rfl
theorem w_is_whole_v {T : Tk} {d : D} {k : KD} (hd : Pln d) (h : k (.bl (isI d)) T) : sm_is_whole [.val d] T k := by
  rw [e_is_whole, b_is_whole]
  cases d with
  | obj _ _ _ => exact hd.elim
  | ref _ => exact hd.elim
  | bl b => walk_at "wk"; simpa [isI, isTy] using h
  | int i => walk_at "wk"; simpa [isI, isTy] using h
  | non => walk_at "wk"; simpa [isI, isTy] using h
  | str s => walk_at "wk"; simpa [isI, isTy] using h
  | tup s => walk_at "wk"; simpa [isI, isTy] using h
  | lst s => walk_at "wk"; simpa [isI, isTy] using h
  | scr s => walk_at "wk"; simpa [isI, isTy] using h
  | dct s t => walk_at "wk"; simpa [isI, isTy] using h
theorem lc_wholes {A0 A1 : Option SV} {K : List D → Tk → Prop} : ∀ (xs : List D) (c : Option SV) (acc : List D) (T : Tk), (∀ x ∈ xs, Pln x) → K (acc ++ xs.map fun x => D.bl (isI x)) T →
    lcD [A0, A1, c] (cN 2) dYes (dCall 1 sm_is_whole (aCons (dVar 2) (aNil))) K xs acc T
  | [], c, acc, T, _, h => by
    rw [List.map_nil, List.append_nil] at h
    exact h
  | x :: xs, c, acc, T, hx, h => by
    walk_at "evn"
    refine w_is_whole_v (hx x List.mem_cons_self) ?_
    refine lc_wholes xs _ _ _ (fun y hy => hx y (List.mem_cons_of_mem _ hy)) ?_
    rw [List.append_assoc]
    exact h
theorem w_are_wholes_v {T : Tk} {d : D} {n : Int} {k : KD} (hd : VOk d) (h : k (.bl (isW n d)) T) : sm_are_wholes [.val d, .val (.int n)] T k := by
  rw [e_are_wholes, b_are_wholes]
  have pd := hd.pln
  cases d with
  | obj _ _ _ => exact pd.elim
  | ref _ => exact pd.elim
  | bl b => walk_at "wk"; simpa [isW, isTy] using h
  | int i => walk_at "wk"; simpa [isW, isTy] using h
  | non => walk_at "wk"; simpa [isW, isTy] using h
  | str s => walk_at "wk"; simpa [isW, isTy] using h
  | lst s => walk_at "wk"; simpa [isW, isTy] using h
  | scr s => walk_at "wk"; simpa [isW, isTy] using h
  | dct s t => walk_at "wk"; simpa [isW, isTy] using h
  | tup xs =>
    rw [isW] at h
    walk_at "wkn"
    by_cases e : (xs.length : Int) = n
    · rw [decide_eq_true e, Bool.true_and] at h
      rw [decide_eq_true e]
      walk_at "wkn"
      refine ⟨by have := hd.len xs rfl; omega, ?_⟩
      refine lc_wholes xs _ _ _ (fun x hx => okN_pln (hd.el xs rfl x hx)) ?_
      rw [List.nil_append]
      walk_at "wkn"
      rw [bls_all]
      walk_at "wkn"
      rw [show (xs.map isI).all (fun b => b) = xs.all isI from all_isI xs]
      exact h
    · rw [decide_eq_false e, Bool.false_and] at h
      rw [decide_eq_false e]
      walk_at "wkn"
      exact h
theorem lc_odd {A0 A1 : Option SV} {K : List D → Tk → Prop} : ∀ (xs : List D) (c : Option SV) (acc : List D) (T : Tk), (∀ x ∈ xs, Pln x) → K (acc ++ xs.filter fun x => !isI x) T →
    lcD [A0, A1, c] (cN 2) (dOr (dNot (dTst (dIsi .int (dVar 2)))) (dTst (dIsi .bool (dVar 2)))) (dVar 2) K xs acc T
  | [], c, acc, T, _, h => by
    rw [List.filter_nil, List.append_nil] at h
    exact h
  | x :: xs, c, acc, T, hx, h => by
    have px := hx x List.mem_cons_self
    have hy : ∀ y ∈ xs, Pln y := fun y hy => hx y (List.mem_cons_of_mem _ hy)
    have no : isI x = false → K (acc ++ [x] ++ xs.filter fun x => !isI x) T := fun e => by
      rw [List.filter_cons, if_pos (by rw [e]; rfl)] at h
      rw [List.append_assoc]
      exact h
    have go := fun e => lc_odd (A0 := A0) (A1 := A1) xs c (acc ++ [x]) T hy (no e)
    cases x with
    | obj _ _ _ => exact px.elim
    | ref _ => exact px.elim
    | bl b => have := go rfl; simpa [lcD, cN, dOr, dNot, dTst, dIsi, dVar, isTy, isI] using this
    | int i =>
      rw [List.filter_cons, if_neg (by simp [isI])] at h
      have := lc_odd (A0 := A0) (A1 := A1) xs c acc T hy h
      simpa [lcD, cN, dOr, dNot, dTst, dIsi, dVar, isTy, isI] using this
    | non => have := go rfl; simpa [lcD, cN, dOr, dNot, dTst, dIsi, dVar, isTy, isI] using this
    | str s => have := go rfl; simpa [lcD, cN, dOr, dNot, dTst, dIsi, dVar, isTy, isI] using this
    | tup s => have := go rfl; simpa [lcD, cN, dOr, dNot, dTst, dIsi, dVar, isTy, isI] using this
    | lst s => have := go rfl; simpa [lcD, cN, dOr, dNot, dTst, dIsi, dVar, isTy, isI] using this
    | scr s => have := go rfl; simpa [lcD, cN, dOr, dNot, dTst, dIsi, dVar, isTy, isI] using this
    | dct s t => have := go rfl; simpa [lcD, cN, dOr, dNot, dTst, dIsi, dVar, isTy, isI] using this
theorem w__law_is_whole_v {T : Tk} {d : D} {n : Int} {k : KD} (hd : VOk d) (h : k (.bl (isW n d)) T) : sm__law_is_whole [.val d, .val (.int n)] T k := by
  rw [e__law_is_whole, b__law_is_whole]
  have pd := hd.pln
  cases d with
  | obj _ _ _ => exact pd.elim
  | ref _ => exact pd.elim
  | bl b => walk_at "wk"; simpa [isW, isTy] using h
  | int i => walk_at "wk"; simpa [isW, isTy] using h
  | non => walk_at "wk"; simpa [isW, isTy] using h
  | str s => walk_at "wk"; simpa [isW, isTy] using h
  | lst s => walk_at "wk"; simpa [isW, isTy] using h
  | scr s => walk_at "wk"; simpa [isW, isTy] using h
  | dct s t => walk_at "wk"; simpa [isW, isTy] using h
  | tup xs =>
    rw [isW] at h
    walk_at "wkn"
    by_cases e : (xs.length : Int) = n
    · rw [decide_eq_true e, Bool.true_and] at h
      rw [decide_eq_true e]
      walk_at "wkn"
      refine ⟨by have := hd.len xs rfl; omega, ?_⟩
      have el := hd.el xs rfl
      refine lc_odd xs _ _ _ (fun x hx => okN_pln (el x hx)) ?_
      rw [List.nil_append]
      walk_at "wkn"
      have ok : (D.lst (xs.filter fun x => !isI x)).eqOk := ok_okN (n := 4) (by
        simp only [okN]
        refine ⟨by decide, ?_⟩
        refine okL_of fun x hx => ?_
        exact el x (List.mem_filter.mp hx).1) (by decide)
      refine ⟨ok, ?_⟩
      have e2 : eqDL (xs.filter fun x => !isI x) [] = xs.all isI := by
        cases q : xs.filter (fun x => !isI x) with
        | nil =>
          have : xs.all isI = true := by
            rw [List.all_eq_true]
            intro x hx
            have := List.filter_eq_nil_iff.mp q x hx
            simpa using this
          rw [this]
          rfl
        | cons y ys =>
          have : xs.all isI = false := by
            have hy : y ∈ xs.filter (fun x => !isI x) := by rw [q]; exact List.mem_cons_self
            obtain ⟨h1, h2⟩ := List.mem_filter.mp hy
            rw [List.all_eq_false]
            exact ⟨y, h1, by simpa using h2⟩
          rw [this]
          simp only [eqDL_cn]
      rw [e2]
      exact h
    · rw [decide_eq_false e, Bool.false_and] at h
      rw [decide_eq_false e]
      walk_at "wkn"
      exact h

theorem w_is_complex_v {T : Tk} {d : D} {k : KD} (hd : VOk d) (h : k (.bl (isW 2 d)) T) : sm_is_complex [.val d] T k := by
  rw [e_is_complex, b_is_complex]
  walk_at "wk"
  exact w_are_wholes_v hd h
theorem map_lc {A0 : Option SV} {k : List D → Tk → Prop} {T : Tk} : ∀ (ys acc : List D), (∀ y ∈ ys, VOk y) → k (acc ++ ys.filter fun y => !isW 2 y) T → lcK [A0, none] (cN 1) (dNot (dTst (dCall 1 sm_is_complex (aCons (dVar 1) (aNil))))) (dVar 1) k ys acc T
  | [], acc, _, h => by
    rw [List.filter_nil, List.append_nil] at h
    exact h
  | y :: ys, acc, hy, h => by
    have ih := map_lc (A0 := A0) (k := k) (T := T) ys
    walk_at "wk"
    refine w_is_complex_v (hy y List.mem_cons_self) ?_
    cases q : isW 2 y with
    | true =>
      walk_at "wk"
      rw [List.filter_cons, if_neg (by rw [q]; decide)] at h
      exact ih acc (fun z hz => hy z (List.mem_cons_of_mem _ hz)) h
    | false =>
      walk_at "wk"
      rw [List.filter_cons, if_pos (by rw [q]; rfl)] at h
      exact ih (acc ++ [y]) (fun z hz => hy z (List.mem_cons_of_mem _ hz)) (by rw [List.append_assoc]; exact h)
theorem w_is_map_odd {T : Tk} {f : Int} {y1 y2 y3 y4 : D} {k : KD} (hf : f = 0 ∨ f = 1) (hv : ∀ y ∈ [y1, y2, y3, y4], VOk y) (ho : ∀ y ∈ [y1, y2, y3, y4], okN 3 y) (odd : ∃ y ∈ [y1, y2, y3, y4], isW 2 y = false) (h : k (.bl false) T) : sm_is_map [.val (.tup [.int f, y1, y2, y3, y4])] T k := by
  rw [e_is_map, b_is_map, k_ZERO]
  walk_at "wkn"
  refine w_is_flag hf ?_
  walk_at "wkn"
  refine map_lc [y1, y2, y3, y4] [] hv ?_
  obtain ⟨y, my, q⟩ := odd
  have mem : y ∈ [y1, y2, y3, y4].filter fun y => !isW 2 y := List.mem_filter.mpr ⟨my, by rw [q]; rfl⟩
  have sub : ∀ z ∈ [y1, y2, y3, y4].filter fun y => !isW 2 y, okN 3 z := fun z hz => ho z (List.mem_filter.mp hz).1
  rw [List.nil_append]
  generalize [y1, y2, y3, y4].filter (fun y => !isW 2 y) = zs at mem sub ⊢
  have ok : (D.lst zs).eqOk := ok_okN (n := 4) (by simp only [okN]; exact ⟨by decide, okL_of sub⟩) (by decide)
  obtain ⟨z, zs', rfl⟩ : ∃ z zs', zs = z :: zs' := by
    cases zs with
    | nil => cases mem
    | cons a b => exact ⟨a, b, rfl⟩
  walk_at "wkn"
  exact ⟨ok, h⟩
theorem lmap_for {K : dEnds} {A0 : Option SV} {T : Tk} : ∀ (ys : List D) (x : Option SV), (∀ y ∈ ys, VOk y) → (∃ y ∈ ys, isW 2 y = false) → K.rt (.bl false) T → forL (gN 1) (sIf (dNot (dTst (dCall 2 sm__law_is_whole (aCons (dVar 1) (aCons (dC (.int 2)) (aNil)))))) (sRet (dC (.bl false))) ((fun k ρ T => k.nx ρ T))) K ys [A0, x] T
  | [], _, _, ⟨_, h, _⟩, _ => absurd h (by simp)
  | y :: ys, x, hy, odd, h => by
    rw [forL_c]
    walk_at "wkn"
    refine w__law_is_whole_v (hy y List.mem_cons_self) ?_
    cases q : isW 2 y with
    | true =>
      walk_at "wkn"
      refine lmap_for ys _ (fun z hz => hy z (List.mem_cons_of_mem _ hz)) ?_ h
      obtain ⟨z, mz, qz⟩ := odd
      rcases List.mem_cons.mp mz with e | mz
      · rw [e, q] at qz; cases qz
      · exact ⟨z, mz, qz⟩
    | false =>
      walk_at "wkn"
      exact h
theorem vok1 {d : D} (h1 : okN 3 d) (h2 : ∀ i, D.int i = d → Sz 100 i) : VOk (.tup [d]) :=
  ⟨trivial, fun xs e => by cases e; simp, fun xs e x hx => by cases e; rw [List.mem_singleton.mp hx]; exact h1, fun xs e i hi => by cases e; exact h2 i (List.mem_singleton.mp hi)⟩
theorem w__law_is_map_odd {T : Tk} {f : Int} {y1 y2 y3 y4 : D} {k : KD} (hf : f = 0 ∨ f = 1) (hv : ∀ y ∈ [y1, y2, y3, y4], VOk y) (odd : ∃ y ∈ [y1, y2, y3, y4], isW 2 y = false) (h : k (.bl false) T) : sm__law_is_map [.val (.tup [.int f, y1, y2, y3, y4])] T k := by
  rw [e__law_is_map, b__law_is_map]
  have sf : ∀ i, D.int i = D.int f → Sz 100 i := fun i e => by cases e; rcases hf with rfl | rfl <;> (unfold Sz; decide)
  walk_at "wkn"
  refine w__law_is_whole_v (vok1 (by simp only [okN]) sf) ?_
  rw [show isW 1 (D.tup [D.int f]) = true from rfl]
  walk_at "wkn"
  refine iteB_p (by rcases hf with rfl | rfl <;> rfl) ?_
  walk_at "wkn"
  exact lmap_for [y1, y2, y3, y4] none hv odd h
/-- a thing that is no tuple of five -/
def not5 (d : D) : Prop := Pln d ∧ ∀ xs, d = .tup xs → xs.length ≠ 5
theorem w__law_is_map_n5 {T : Tk} {d : D} {k : KD} (hd : not5 d) (h : k (.bl false) T) : sm__law_is_map [.val d] T k := by
  rw [e__law_is_map, b__law_is_map]
  obtain ⟨pd, hl⟩ := hd
  cases d with
  | obj _ _ _ => exact pd.elim
  | ref _ => exact pd.elim
  | tup xs =>
    have ne : decide ((xs.length : Int) = 5) = false := decide_eq_false (by have := hl xs rfl; omega)
    walk_at "wkn"
    rw [ne]
    walk_at "wkn"
    exact h
  | bl b => walk_at "wk"; simpa [isTy] using h
  | int i => walk_at "wk"; simpa [isTy] using h
  | non => walk_at "wk"; simpa [isTy] using h
  | str s => walk_at "wk"; simpa [isTy] using h
  | lst s => walk_at "wk"; simpa [isTy] using h
  | scr s => walk_at "wk"; simpa [isTy] using h
  | dct s t => walk_at "wk"; simpa [isTy] using h
theorem w_is_map_n5 {T : Tk} {d : D} {k : KD} (pd : Pln d) (hl : ∀ xs, d = .tup xs → xs.length ≠ 5) (h : k (.bl false) T) : sm_is_map [.val d] T k := by
  rw [e_is_map, b_is_map]
  cases d with
  | obj _ _ _ => exact pd.elim
  | ref _ => exact pd.elim
  | tup xs =>
    have ne : decide ((xs.length : Int) = 5) = false := decide_eq_false (by have := hl xs rfl; omega)
    walk_at "wkn"
    rw [ne]
    walk_at "wkn"
    exact h
  | bl b => walk_at "wk"; simpa [isTy] using h
  | int i => walk_at "wk"; simpa [isTy] using h
  | non => walk_at "wk"; simpa [isTy] using h
  | str s => walk_at "wk"; simpa [isTy] using h
  | lst s => walk_at "wk"; simpa [isTy] using h
  | scr s => walk_at "wk"; simpa [isTy] using h
  | dct s t => walk_at "wk"; simpa [isTy] using h
/-- what is no flag -/
def noF (d : D) : Prop := d = .int 2 ∨ d = .int (-1) ∨ d = .bl true ∨ d = .bl false ∨ d = .non ∨ d = .str "0"
theorem noF_ok {d : D} (h : noF d) : okN 3 d ∧ ∀ i, D.int i = d → Sz 100 i := by
  rcases h with rfl | rfl | rfl | rfl | rfl | rfl
  · exact ⟨by simp only [okN], fun i e => by cases e; unfold Sz; decide⟩
  · exact ⟨by simp only [okN], fun i e => by cases e; unfold Sz; decide⟩
  · exact ⟨by simp only [okN], fun _ z => nomatch z⟩
  · exact ⟨by simp only [okN], fun _ z => nomatch z⟩
  · exact ⟨by simp only [okN], fun _ z => nomatch z⟩
  · exact ⟨by simp only [okN]; decide +kernel, fun _ z => nomatch z⟩
theorem w_is_map_flag {T : Tk} {x y1 y2 y3 y4 : D} {k : KD} (hx : noF x) (h : k (.bl false) T) : sm_is_map [.val (.tup [x, y1, y2, y3, y4])] T k := by
  rw [e_is_map, b_is_map]
  walk_at "wkn"
  rw [e_is_flag, b_is_flag]
  walk_at "wkn"
  refine w_is_whole_v (okN_pln (noF_ok hx).1) ?_
  rcases hx with rfl | rfl | rfl | rfl | rfl | rfl
  · simp only [isI]
    walk_at "wkn"
    exact h
  · simp only [isI]
    walk_at "wkn"
    exact h
  · simp only [isI]
    walk_at "wkn"
    exact h
  · simp only [isI]
    walk_at "wkn"
    exact h
  · simp only [isI]
    walk_at "wkn"
    exact h
  · simp only [isI]
    walk_at "wkn"
    exact h
theorem w__law_is_map_flag {T : Tk} {x y1 y2 y3 y4 : D} {k : KD} (hx : noF x) (h : k (.bl false) T) : sm__law_is_map [.val (.tup [x, y1, y2, y3, y4])] T k := by
  rw [e__law_is_map, b__law_is_map]
  walk_at "wkn"
  refine w__law_is_whole_v (vok1 (noF_ok hx).1 (noF_ok hx).2) ?_
  rcases hx with rfl | rfl | rfl | rfl | rfl | rfl
  · rw [show isW 1 (D.tup [D.int 2]) = true from rfl]
    walk_at "wkn"
    exact h
  · rw [show isW 1 (D.tup [D.int (-1)]) = true from rfl]
    walk_at "wkn"
    exact h
  · rw [show isW 1 (D.tup [D.bl true]) = false from rfl]
    walk_at "wkn"
    exact h
  · rw [show isW 1 (D.tup [D.bl false]) = false from rfl]
    walk_at "wkn"
    exact h
  · rw [show isW 1 (D.tup [D.non]) = false from rfl]
    walk_at "wkn"
    exact h
  · rw [show isW 1 (D.tup [D.str "0"]) = false from rfl]
    walk_at "wkn"
    exact h

def io (n : Int) : Gi := ⟨n, 0⟩
theorem nm_io (a : Gi) : io a.nm = a * a.cj := by
  refine Gi.ext' ?_ ?_
  · unfold io Gi.nm Gi.cj; simp only [Gi.mul_re]; grind
  · unfold io Gi.cj; simp only [Gi.mul_im]; grind
theorem scl2 (a b : Gi) (m : G4) : scl a (scl b m) = scl (a * b) m := by
  unfold scl
  simp only [Prod.mk.injEq]
  refine ⟨?_, ?_, ?_, ?_⟩ <;> grind
theorem g2_ex : ∀ (n : Nat) (a b : Gi), b.nm.toNat ≤ n → ∃ g, G2 g a b
  | 0, a, b, h => by
    have := b.nm_nn
    have z : b = 0 := Gi.nm_zero (by omega)
    rw [z]
    exact ⟨a, G2.zero a⟩
  | n + 1, a, b, h => by
    by_cases z : b = 0
    · rw [z]; exact ⟨a, G2.zero a⟩
    · have p := Gi.nm_pos z
      have q := nearG_nm (a := a) z
      have r := (a - nearG a b * b).nm_nn
      obtain ⟨g, hg⟩ := g2_ex n b (a - nearG a b * b) (by omega)
      exact ⟨g, hg.step⟩
/-- each four numbers have a map -/
theorem fm_ex {n : Nat} {N : G4} (hN : N4 n N) (nz : fst4 N ≠ 0) : ∃ m, Fm n N m := by
  obtain ⟨a, b, c, d⟩ := N
  obtain ⟨x1, h1⟩ := g2_ex _ 0 a (Nat.le_refl _)
  obtain ⟨x2, h2⟩ := g2_ex _ x1 b (Nat.le_refl _)
  obtain ⟨x3, h3⟩ := g2_ex _ x2 c (Nat.le_refl _)
  obtain ⟨x4, h4⟩ := g2_ex _ x3 d (Nat.le_refl _)
  have g := gd_of h1 h2 h3 h4
  have gn : x4 ≠ 0 := fun z => by
    obtain ⟨⟨p, e1⟩, ⟨q, e2⟩, ⟨r, e3⟩, ⟨s, e4⟩, _⟩ := g
    simp only at e1 e2 e3 e4
    rw [z] at e1 e2 e3 e4
    apply nz
    unfold fst4
    simp only
    rw [show a = 0 by rw [e1]; grind, show b = 0 by rw [e2]; grind, show c = 0 by rw [e3]; grind, show d = 0 by rw [e4]; grind]
    simp
  obtain ⟨⟨p, e1⟩, ⟨q, e2⟩, ⟨r, e3⟩, ⟨s, e4⟩, u, v, w, t, es⟩ := g
  simp only at e1 e2 e3 e4 es
  have eN : ((a, b, c, d) : G4) = scl x4 (p, q, r, s) := by
    unfold scl
    simp only [Prod.mk.injEq]
    refine ⟨?_, ?_, ?_, ?_⟩ <;> grind
  have bz : u * p + v * q + w * r + t * s = 1 := by
    refine Gi.cancel gn ?_
    rw [e1, e2, e3, e4] at es
    grind
  have f0 : fst4 (p, q, r, s) ≠ 0 := fun z => nz (by rw [eN, fst4_scl gn, z]; grind)
  have un := guni_nm (fst4 (p, q, r, s))
  have qf := guni_qf f0
  generalize hU : guni (fst4 (p, q, r, s)) = U at un qf
  have uc : U * U.cj = 1 := by rw [← nm_io, un]; rfl
  have U0 : U ≠ 0 := fun z => by rw [z] at un; exact absurd un (by decide)
  have eN2 : ((a, b, c, d) : G4) = scl (x4 * U.cj) (scl U (p, q, r, s)) := by
    rw [eN, scl2]
    congr 1
    rw [show x4 * U.cj * U = x4 * (U * U.cj) by grind, uc]
    grind
  have cn : x4 * U.cj ≠ 0 := Gi.mul_ne gn (Gi.cj_ne U0)
  have part : ∀ {x y : Gi}, Nz n x → x = x4 * U.cj * y → Nz n y := fun {x y} hx e => Nz.dvd cn (by rw [← e]; exact hx)
  have e' := eN2
  unfold scl at e'
  simp only [Prod.mk.injEq] at e'
  obtain ⟨k1, k2, k3, k4⟩ := e'
  refine ⟨scl U (p, q, r, s), ⟨⟨u * U.cj, v * U.cj, w * U.cj, t * U.cj, ?_⟩, ?_⟩, ⟨x4 * U.cj, cn, eN2⟩, part hN.s1 k1, part hN.s2 k2, part hN.s3 k3, part hN.s4 k4⟩
  · unfold scl
    simp only
    rw [show u * U.cj * (U * p) + v * U.cj * (U * q) + w * U.cj * (U * r) + t * U.cj * (U * s) = (U * U.cj) * (u * p + v * q + w * r + t * s) by grind, uc, bz]
    grind
  · rw [fst4_scl U0, show U * fst4 (p, q, r, s) = fst4 (p, q, r, s) * U by grind]
    exact qf
theorem sq_nn (a : Int) : 0 ≤ a * a := by
  rcases Int.le_total 0 a with o | o
  · exact Int.mul_nonneg o o
  · exact Int.mul_nonneg_of_nonpos_of_nonpos o o
theorem vok_tup {xs : List D} (l : xs.length ≤ 1000) (h : ∀ x ∈ xs, okN 3 x) (s : ∀ i, D.int i ∈ xs → Sz 100 i) : VOk (.tup xs) := ⟨trivial, fun ys e => by cases e; exact l, fun ys e => by cases e; exact h, fun ys e => by cases e; exact s⟩
theorem dec_g4 (m N : G4) : ((decide (m.1.re = N.1.re) && decide (m.1.im = N.1.im)) && ((decide (m.2.1.re = N.2.1.re) && decide (m.2.1.im = N.2.1.im)) && ((decide (m.2.2.1.re = N.2.2.1.re) && decide (m.2.2.1.im = N.2.2.1.im)) && (decide (m.2.2.2.re = N.2.2.2.re) && decide (m.2.2.2.im = N.2.2.2.im))))) = decide (m = N) := by
  simp only [← Bool.decide_and]
  refine decide_eq_decide.mpr ⟨fun ⟨⟨a, b⟩, ⟨c, d⟩, ⟨e, g⟩, ⟨i, j⟩⟩ => ?_, fun e => by subst e; simp⟩
  exact Prod.ext (Gi.ext' a b) (Prod.ext (Gi.ext' c d) (Prod.ext (Gi.ext' e g) (Gi.ext' i j)))
theorem w_is_map_0 {T : Tk} {n : Nat} {f : Int} {N : G4} {k : KD} (hf : f = 0 ∨ f = 1) (hN : N4 n N) (hn : n ≤ 1900) (d0 : dtG N = 0) (h : k (.bl false) T) : sm_is_map [.val (mD f N)] T k := by
  rw [e_is_map, b_is_map, k_ZERO]
  walk_at "wk"
  refine w_is_flag hf ?_
  walk_at "wk"
  refine w_is_complex ?_
  walk_at "wk"
  refine w_is_complex ?_
  walk_at "wk"
  refine w_is_complex ?_
  walk_at "wk"
  refine w_is_complex ?_
  walk_at "wk"
  refine w_determinant hN.s1 hN.s2 hN.s3 hN.s4 (by omega) ?_
  walk_at "wk"
  rw [dec_gi, decide_eq_true d0]
  walk_at "wk"
  exact h
theorem w_is_map_g {T : Tk} {n : Nat} {f : Int} {N m : G4} {k : KD} (hf : f = 0 ∨ f = 1) (hN : N4 n N) (hn : n ≤ 1900) (d0 : dtG N ≠ 0) (hm : Fm n N m) (h : k (.bl (decide (m = N))) T) : sm_is_map [.val (mD f N)] T k := by
  rw [e_is_map, b_is_map, k_ZERO]
  walk_at "wk"
  refine w_is_flag hf ?_
  walk_at "wk"
  refine w_is_complex ?_
  walk_at "wk"
  refine w_is_complex ?_
  walk_at "wk"
  refine w_is_complex ?_
  walk_at "wk"
  refine w_is_complex ?_
  walk_at "wk"
  refine w_determinant hN.s1 hN.s2 hN.s3 hN.s4 (by omega) ?_
  walk_at "wk"
  rw [dec_gi, decide_eq_false d0]
  walk_at "wk"
  refine w_form_of (NS := .tup [gD N.1, gD N.2.1, gD N.2.2.1, gD N.2.2.2]) rfl hN.s1 hN.s2 hN.s3 hN.s4 (by omega) (dt_fst d0) fun m' hm' => ?_
  obtain rfl := hm.uniq hm'
  walk_at "wk"
  rw [dec_g4]
  exact h
theorem w__law_detT {T : Tk} {n : Nat} {N : G4} {k : KD} (h4 : N4 n N) (hn : n ≤ 50000) (h : k (gD (dtG N)) T) : sm__law_det [.val (.tup [gD N.1, gD N.2.1, gD N.2.2.1, gD N.2.2.2])] T k := by
  rw [e__law_det, b__law_det]
  walk_at "wk"
  refine w__law_timesG h4.s1.cz h4.s4.cz (by omega) (by omega) ?_
  walk_at "wk"
  refine w__law_timesG h4.s2.cz h4.s3.cz (by omega) (by omega) ?_
  walk_at "wk"
  exact w__law_lessG h
theorem lmap_all {K : dEnds} {A0 : Option SV} {T : Tk} (fin : ∀ x, K.nx [A0, x] T) : ∀ (ys : List D) (x : Option SV), (∀ y ∈ ys, VOk y ∧ isW 2 y = true) → forL (gN 1) (sIf (dNot (dTst (dCall 2 sm__law_is_whole (aCons (dVar 1) (aCons (dC (.int 2)) (aNil)))))) (sRet (dC (.bl false))) ((fun k ρ T => k.nx ρ T))) K ys [A0, x] T
  | [], x, _ => fin x
  | y :: ys, x, hy => by
    rw [forL_c]
    walk_at "wkn"
    refine w__law_is_whole_v (hy y List.mem_cons_self).1 ?_
    rw [(hy y List.mem_cons_self).2]
    walk_at "wkn"
    exact lmap_all fin ys _ fun z hz => hy z (List.mem_cons_of_mem _ hz)
theorem vok_g {n : Nat} {a : Gi} (h : Nz n a) (hn : n ≤ 100) : VOk (gD a) ∧ isW 2 (gD a) = true := by
  have sz : ∀ i : Int, i * i ≤ a.nm → Sz 100 i := fun i hi => by
    have : a.nm < 2 ^ n := h
    have : (2 : Int) ^ n ≤ 2 ^ 100 := by exact_mod_cast Nat.pow_le_pow_right (by decide) hn
    unfold Sz
    rcases Nat.lt_or_ge i.natAbs (2 ^ 100) with o | o
    · exact o
    · exfalso
      have q : ((i.natAbs : Nat) : Int) * i.natAbs = i * i := Int.natAbs_mul_self
      have o2 : (2 : Int) ^ 100 ≤ i.natAbs := by exact_mod_cast o
      have := Int.mul_le_mul o2 o2 (by decide) (by omega)
      omega
  have n1 : a.re * a.re ≤ a.nm := by unfold Gi.nm; have := sq_nn a.im; omega
  have n2 : a.im * a.im ≤ a.nm := by unfold Gi.nm; have := sq_nn a.re; omega
  refine ⟨vok_tup (by simp) (fun x hx => ?_) fun i hi => ?_, rfl⟩
  · simp only [List.mem_cons, List.not_mem_nil, or_false] at hx
    rcases hx with rfl | rfl <;> simp only [okN]
  · simp only [List.mem_cons, List.not_mem_nil, or_false, D.int.injEq] at hi
    rcases hi with rfl | rfl
    · exact sz _ n1
    · exact sz _ n2
theorem w__law_is_map_any {T : Tk} {n : Nat} {f : Int} {N : G4} {b : Bool} {k : KD} (hf : f = 0 ∨ f = 1) (hN : N4 n N) (hn : n ≤ 100) (hb : (dtG N = 0 ∧ b = false) ∨ (dtG N ≠ 0 ∧ ∃ m, Fm n N m ∧ b = decide (m = N))) (h : k (.bl b) T) : sm__law_is_map [.val (mD f N)] T k := by
  rw [e__law_is_map, b__law_is_map]
  have sf : ∀ i, D.int i = D.int f → Sz 100 i := fun i e => by cases e; rcases hf with rfl | rfl <;> (unfold Sz; decide)
  walk_at "wkn"
  refine w__law_is_whole_v (vok1 (by simp only [okN]) sf) ?_
  rw [show isW 1 (D.tup [D.int f]) = true from rfl]
  walk_at "wkn"
  refine iteB_p (by rcases hf with rfl | rfl <;> rfl) ?_
  walk_at "wkn"
  refine lmap_all (fun x => ?_) [gD N.1, gD N.2.1, gD N.2.2.1, gD N.2.2.2] none fun y hy => ?_
  · walk_at "wkn"
    refine w__law_detT (N := N) hN (by omega) ?_
    walk_at "wkn"
    rw [dec_gi]
    rcases hb with ⟨d0, rfl⟩ | ⟨d0, m, hm, rfl⟩
    · refine iteB_p (decide_eq_true d0) ?_
      walk_at "wkn"
      exact h
    · refine iteB_n (decide_eq_false d0) ?_
      walk_at "wkn"
      refine w__law_map (N := N) rfl hN.s1 hN.s2 hN.s3 hN.s4 (by omega) (dt_fst d0) fun m' hm' => ?_
      obtain rfl := hm.uniq hm'
      walk_at "wkn"
      rw [dec_g4]
      exact h
  · simp only [List.mem_cons, List.not_mem_nil, or_false] at hy
    rcases hy with rfl | rfl | rfl | rfl
    · exact vok_g hN.s1 hn
    · exact vok_g hN.s2 hn
    · exact vok_g hN.s3 hn
    · exact vok_g hN.s4 hn
/-- both tell the thing, and alike -/
def Tell (d : D) : Prop := ∃ b : Bool, (∀ {T : Tk} {k : KD}, k (.bl b) T → sm_is_map [.val d] T k) ∧ ∀ {T : Tk} {k : KD}, k (.bl b) T → sm__law_is_map [.val d] T k
theorem tell_g {n : Nat} {f : Int} {N : G4} (hf : f = 0 ∨ f = 1) (hN : N4 n N) (hn : n ≤ 100) : Tell (mD f N) := by
  by_cases d0 : dtG N = 0
  · exact ⟨false, fun h => w_is_map_0 hf hN (by omega) d0 h, fun h => w__law_is_map_any hf hN hn (.inl ⟨d0, rfl⟩) h⟩
  · obtain ⟨m, hm⟩ := fm_ex hN (dt_fst d0)
    exact ⟨decide (m = N), fun h => w_is_map_g hf hN (by omega) d0 hm h, fun h => w__law_is_map_any hf hN hn (.inr ⟨d0, m, hm, rfl⟩) h⟩
theorem tell_n5 {d : D} (h : not5 d) : Tell d := ⟨false, fun q => w_is_map_n5 h.1 h.2 q, fun q => w__law_is_map_n5 h q⟩
theorem tell_flag {x y1 y2 y3 y4 : D} (hx : noF x) : Tell (.tup [x, y1, y2, y3, y4]) := ⟨false, fun q => w_is_map_flag hx q, fun q => w__law_is_map_flag hx q⟩
theorem tell_odd {f : Int} {y1 y2 y3 y4 : D} (hf : f = 0 ∨ f = 1) (hv : ∀ y ∈ [y1, y2, y3, y4], VOk y ∧ okN 3 y) (odd : ∃ y ∈ [y1, y2, y3, y4], isW 2 y = false) : Tell (.tup [.int f, y1, y2, y3, y4]) :=
  ⟨false, fun q => w_is_map_odd hf (fun y h => (hv y h).1) (fun y h => (hv y h).2) odd q, fun q => w__law_is_map_odd hf (fun y h => (hv y h).1) odd q⟩

theorem w_map_of {T : Tk} {n : Nat} {f : Int} {N : G4} {k : KD} (hf : f = 0 ∨ f = 1) (hN : N4 n N) (d0 : dtG N ≠ 0) (hn : n ≤ 1900) (h : ∀ m, Fm n N m → k (mD f m) T) : sm_map_of [.val (.int f), .val (gD N.1), .val (gD N.2.1), .val (gD N.2.2.1), .val (gD N.2.2.2)] T k := by
  rw [e_map_of, b_map_of, k_ZERO]
  walk_at "wki"
  refine w_is_flag hf ?_
  walk_at "wki"
  refine w_check_complex ?_
  walk_at "wki"
  refine w_check_complex ?_
  walk_at "wki"
  refine w_check_complex ?_
  walk_at "wki"
  refine w_check_complex ?_
  walk_at "wki"
  refine w_determinant (m := N) hN.s1 hN.s2 hN.s3 hN.s4 (by omega) ?_
  walk_at "wki"
  rw [dec_gi, decide_eq_false d0]
  walk_at "wki"
  exact w_form_of (NS := .tup [gD N.1, gD N.2.1, gD N.2.2.1, gD N.2.2.2]) rfl hN.s1 hN.s2 hN.s3 hN.s4 (by omega) (dt_fst d0) fun m hm => h m hm
theorem x_map_of {T : Tk} {n : Nat} {f : Int} {N : G4} {r : RK} {k : KD} (hf : f = 0 ∨ f = 1) (hN : N4 n N) (d0 : dtG N = 0) (hn : n ≤ 1900) (h : r ⟨"NoMap", none⟩ T) : se_map_of r [.val (.int f), .val (gD N.1), .val (gD N.2.1), .val (gD N.2.2.1), .val (gD N.2.2.2)] T k := by
  rw [ex_map_of, b_map_of, k_ZERO]
  walk_at "wki"
  refine w_is_flag hf ?_
  walk_at "wki"
  refine w_check_complex ?_
  walk_at "wki"
  refine w_check_complex ?_
  walk_at "wki"
  refine w_check_complex ?_
  walk_at "wki"
  refine w_check_complex ?_
  walk_at "wki"
  refine w_determinant (m := N) hN.s1 hN.s2 hN.s3 hN.s4 (by omega) ?_
  walk_at "wki"
  rw [dec_gi]
  refine iteB_p (decide_eq_true d0) ?_
  exact h
theorem w__law_is_refused {T : Tk} {n : Nat} {f : Int} {N : G4} {k : KD} (hf : f = 0 ∨ f = 1) (hN : N4 n N) (d0 : dtG N = 0) (hn : n ≤ 1900) (h : k (.bl true) T) : sm__law_is_refused [.val (.int f), .val (.lst [gD N.1, gD N.2.1, gD N.2.2.1, gD N.2.2.2])] T k := by
  rw [e__law_is_refused, b__law_is_refused]
  walk_at "wkn"
  have mt : mt_NoMap "NoMap" = some true := by unfold mt_NoMap; rw [if_pos rfl]
  refine ⟨rfl, x_map_of (n := n) hf hN d0 hn ⟨mt, ?_⟩⟩
  exact h

def g4 (m : G4) : Nat → Gi
  | 0 => m.1
  | 1 => m.2.1
  | 2 => m.2.2.1
  | _ => m.2.2.2
theorem g4_cross {l : Nat} {N m : G4} (hm : Fm l N m) (i j : Nat) : g4 m i * g4 N j = g4 m j * g4 N i := by
  obtain ⟨c, _, e⟩ := hm.c
  have k : ∀ i, g4 N i = c * g4 m i := fun i => by
    rw [e]
    match i with
    | 0 => rfl
    | 1 => rfl
    | 2 => rfl
    | _ + 3 => rfl
  rw [k i, k j]
  grind
theorem g4_nz {n : Nat} {m : G4} (h : N4 n m) : ∀ i, Nz n (g4 m i)
  | 0 => h.s1
  | 1 => h.s2
  | 2 => h.s3
  | _ + 3 => h.s4
theorem al_in {K : dEnds} {n l : Nat} {f : Int} {N m : G4} {T : Tk} {j : Nat} (hN : N4 n N) (hm : Fm l N m) (hn : n ≤ 1900) (hl : l ≤ 1900) (hj : j < 4) (fin : ∀ x, K.nx [some (.val (mD f m)), some (.val (.lst [gD N.1, gD N.2.1, gD N.2.2.1, gD N.2.2.2])), some (.val (.int j)), x] T) :
    ∀ (is : List Nat) (x : Option SV), (∀ i ∈ is, i < 4) → forL (gN 3) (sIf (dTst (dOp (oF fNe) (dCall 2 sm__law_times (aCons (dOp (oF fIx) (dVar 0) (dOp (oF fAdd) (dC (.int 1)) (dVar 3))) (aCons (dOp (oF fIx) (dVar 1) (dVar 2)) (aNil)))) (dCall 2 sm__law_times (aCons (dOp (oF fIx) (dVar 0) (dOp (oF fAdd) (dC (.int 1)) (dVar 2))) (aCons (dOp (oF fIx) (dVar 1) (dVar 3)) (aNil)))))) (sRet (dC (.bl false))) ((fun k ρ T => k.nx ρ T))) K (is.map fun i => D.int (i : Nat)) [some (.val (mD f m)), some (.val (.lst [gD N.1, gD N.2.1, gD N.2.2.1, gD N.2.2.2])), some (.val (.int j)), x] T
  | [], x, _ => fin x
  | i :: is, x, hi => by
    have ih := al_in (f := f) hN hm hn hl hj fin is
    have mN : N4 l m := ⟨hm.s1, hm.s2, hm.s3, hm.s4⟩
    have i4 := hi i List.mem_cons_self
    have cr := g4_cross hm i j
    have a1 := g4_nz mN i
    have a2 := g4_nz mN j
    have b1 := g4_nz hN i
    have b2 := g4_nz hN j
    rw [List.map_cons, forL_c]
    have goal : ∀ x, forL (gN 3) (sIf (dTst (dOp (oF fNe) (dCall 2 sm__law_times (aCons (dOp (oF fIx) (dVar 0) (dOp (oF fAdd) (dC (.int 1)) (dVar 3))) (aCons (dOp (oF fIx) (dVar 1) (dVar 2)) (aNil)))) (dCall 2 sm__law_times (aCons (dOp (oF fIx) (dVar 0) (dOp (oF fAdd) (dC (.int 1)) (dVar 2))) (aCons (dOp (oF fIx) (dVar 1) (dVar 3)) (aNil)))))) (sRet (dC (.bl false))) ((fun k ρ T => k.nx ρ T))) K (is.map fun i => D.int (i : Nat)) [some (.val (mD f m)), some (.val (.lst [gD N.1, gD N.2.1, gD N.2.2.1, gD N.2.2.2])), some (.val (.int j)), x] T := fun x => ih x fun q hq => hi q (List.mem_cons_of_mem _ hq)
    clear ih hi
    generalize is.map (fun i => D.int (i : Nat)) = tl at goal ⊢
    have run : ∀ {a b c d : Gi}, Nz l a → Nz n b → Nz l c → Nz n d → a * b = c * d → True := fun _ _ _ _ _ => trivial
    obtain rfl | rfl | rfl | rfl : i = 0 ∨ i = 1 ∨ i = 2 ∨ i = 3 := by omega
    all_goals
      obtain rfl | rfl | rfl | rfl : j = 0 ∨ j = 1 ∨ j = 2 ∨ j = 3 := by omega
      all_goals
        simp only [g4] at cr a1 a2 b1 b2
        walk_at "wkn"
        refine w__law_timesG a1.cz b2.cz (by omega) (by omega) ?_
        walk_at "wkn"
        refine w__law_timesG a2.cz b1.cz (by omega) (by omega) ?_
        walk_at "wkn"
        first
          | exact goal _
          | (rw [cr]; refine iteB_p (by simp) ?_; exact goal _)
theorem w__law_is_along {T : Tk} {n l : Nat} {f : Int} {N m : G4} {k : KD} (hN : N4 n N) (hm : Fm l N m) (hn : n ≤ 1900) (hl : l ≤ 1900) (h : k (.bl true) T) : sm__law_is_along [.val (mD f m), .val (.lst [gD N.1, gD N.2.1, gD N.2.2.1, gD N.2.2.2])] T k := by
  rw [e__law_is_along, b__law_is_along]
  walk_at "wkn"
  rw [show intsL 0 4 = [D.int 0, D.int 1, D.int 2, D.int 3] from rfl, forK_cons]
  walk_at "wkn"
  refine al_in (j := 0) hN hm hn hl (by decide) (fun x => ?_) [] _ (fun i hi => absurd hi (by simp))
  dsimp only
  rw [forK_cons]
  walk_at "wkn"
  refine al_in (j := 1) hN hm hn hl (by decide) (fun x => ?_) [0] _ (by decide)
  dsimp only
  rw [forK_cons]
  walk_at "wkn"
  refine al_in (j := 2) hN hm hn hl (by decide) (fun x => ?_) [0, 1] _ (by decide)
  dsimp only
  rw [forK_cons]
  walk_at "wkn"
  refine al_in (j := 3) hN hm hn hl (by decide) (fun x => ?_) [0, 1, 2] _ (by decide)
  dsimp only
  rw [forK_nil]
  walk_at "wkn"
  exact h
theorem n4_times {n l : Nat} {N : G4} {t : Gi} (h : N4 n N) (ht : Nz l t) : N4 (n + l) (N.1 * t, N.2.1 * t, N.2.2.1 * t, N.2.2.2 * t) := ⟨h.s1.mul ht, h.s2.mul ht, h.s3.mul ht, h.s4.mul ht⟩
theorem w__law_form_right {T : Tk} {f : Int} {N : G4} {t : Gi} {k : KD} (hf : f = 0 ∨ f = 1) (hN : N4 90 N) (ht : Nz 90 t) (t0 : t ≠ 0) (d0 : dtG N ≠ 0) (h : k (.bl true) T) : sm__law_form_right [.val (.int f), .val (.lst [gD N.1, gD N.2.1, gD N.2.2.1, gD N.2.2.2]), .val (gD t)] T k := by
  rw [e__law_form_right, b__law_form_right]
  walk_at "wki"
  refine w_map_of hf hN d0 (by decide) fun m hm => ?_
  have qm : Mq 90 f m := hm.mq hf d0
  walk_at "wki"
  refine w__law_is_map_any (N := m) hf qm.n4 (by decide) (.inr ⟨qm.dt, m, qm.fm, rfl⟩) ?_
  rw [decide_eq_true rfl]
  walk_at "wki"
  refine w__law_is_along (N := N) hN hm (by decide) (by decide) ?_
  walk_at "wki"
  refine w_is_map qm (by decide) ?_
  walk_at "wki"
  refine w__law_timesG hN.s1.cz ht.cz (by decide) (by decide) ?_
  walk_at "wki"
  refine w__law_timesG hN.s2.cz ht.cz (by decide) (by decide) ?_
  walk_at "wki"
  refine w__law_timesG hN.s3.cz ht.cz (by decide) (by decide) ?_
  walk_at "wki"
  refine w__law_timesG hN.s4.cz ht.cz (by decide) (by decide) ?_
  walk_at "wki"
  have n4 := n4_times hN ht
  have d2 : dtG (N.1 * t, N.2.1 * t, N.2.2.1 * t, N.2.2.2 * t) ≠ 0 := by
    have e : dtG (N.1 * t, N.2.1 * t, N.2.2.1 * t, N.2.2.2 * t) = t * t * dtG N := by unfold dtG; grind
    rw [e]
    exact Gi.mul_ne (Gi.mul_ne t0 t0) d0
  have fm2 : Fm (90 + 90) (N.1 * t, N.2.1 * t, N.2.2.1 * t, N.2.2.2 * t) m := by
    obtain ⟨c, c0, e⟩ := hm.c
    refine ⟨hm.mp, ⟨t * c, Gi.mul_ne t0 c0, ?_⟩, hm.s1.mono (by decide), hm.s2.mono (by decide), hm.s3.mono (by decide), hm.s4.mono (by decide)⟩
    rw [e]
    unfold scl
    simp only [Prod.mk.injEq]
    refine ⟨?_, ?_, ?_, ?_⟩ <;> grind
  refine w_map_of (N := (N.1 * t, N.2.1 * t, N.2.2.1 * t, N.2.2.2 * t)) hf n4 d2 (by decide) fun m2 hm2 => ?_
  obtain rfl := hm2.uniq fm2
  walk_at "wki"
  refine w_map_of (N := m2) hf qm.n4 qm.dt (by decide) fun m3 hm3 => ?_
  obtain rfl := hm3.uniq qm.fm
  walk_at "wki"
  have sh : (D.lst [mD f m3, mD f m3]).shOk := lite_shOk (lite_lst (liteL_cons (qm.lite (by decide)) (liteL_cons (qm.lite (by decide)) liteL_nil))) (Nat.le_of_ble_eq_true rfl) (Nat.le_of_ble_eq_true rfl)
  exact ⟨sh, sh, h⟩

def oddE (x : D) : Prop := VOk x ∧ okN 3 x ∧ isW 2 x = false
theorem odd_of {x : D} (h : x = .non ∨ x = .tup [.int 1] ∨ x = .tup [.int 1, .int 2, .int 3] ∨ x = .lst [.int 1, .int 0] ∨ x = .tup [.bl true, .int 0] ∨ x = .int 3 ∨ x = .str "1") : oddE x := by
  have no : ∀ {d : D}, Pln d → (∀ xs, d ≠ .tup xs) → VOk d := fun h n => ⟨h, fun xs e => absurd e (n xs), fun xs e => absurd e (n xs), fun xs e => absurd e (n xs)⟩
  have s1 : Sz 100 1 := by unfold Sz; decide
  have s2 : Sz 100 2 := by unfold Sz; decide
  have s3 : Sz 100 3 := by unfold Sz; decide
  have s0 : Sz 100 0 := by unfold Sz; decide
  rcases h with rfl | rfl | rfl | rfl | rfl | rfl | rfl
  · exact ⟨no trivial (fun _ z => nomatch z), by simp only [okN], rfl⟩
  · exact ⟨vok_tup (by simp) (by simp [okN]) (by simp [s1]), by simp [okN, okL], rfl⟩
  · exact ⟨vok_tup (by simp) (by simp [okN]) (by simp [s1, s2, s3]), by simp [okN, okL], rfl⟩
  · exact ⟨no trivial (fun _ z => nomatch z), by simp [okN, okL], rfl⟩
  · exact ⟨vok_tup (by simp) (by simp [okN]) (by simp [s0]), by simp [okN, okL], rfl⟩
  · exact ⟨no trivial (fun _ z => nomatch z), by simp only [okN], rfl⟩
  · exact ⟨no trivial (fun _ z => nomatch z), by simp only [okN]; decide +kernel, rfl⟩
theorem gi_el {n : Nat} {a : Gi} (h : Nz n a) (hn : n ≤ 100) : VOk (gD a) ∧ okN 3 (gD a) := ⟨(vok_g h hn).1, by simp [gD, okN, okL]⟩
theorem tell_at {f : Int} {m : G4} {x : D} (hf : f = 0 ∨ f = 1) (hm : N4 82 m) (hx : oddE x) : Tell (.tup [.int f, x, gD m.2.1, gD m.2.2.1, gD m.2.2.2]) ∧ Tell (.tup [.int f, gD m.1, x, gD m.2.2.1, gD m.2.2.2]) ∧ Tell (.tup [.int f, gD m.1, gD m.2.1, x, gD m.2.2.2]) ∧ Tell (.tup [.int f, gD m.1, gD m.2.1, gD m.2.2.1, x]) := by
  have g1 := gi_el hm.s1 (by decide)
  have g2 := gi_el hm.s2 (by decide)
  have g3 := gi_el hm.s3 (by decide)
  have g4' := gi_el hm.s4 (by decide)
  have gx : VOk x ∧ okN 3 x := ⟨hx.1, hx.2.1⟩
  have all : ∀ {a b c d : D}, (VOk a ∧ okN 3 a) → (VOk b ∧ okN 3 b) → (VOk c ∧ okN 3 c) → (VOk d ∧ okN 3 d) → ∀ y ∈ [a, b, c, d], VOk y ∧ okN 3 y := fun ha hb hc hd y hy => by
    simp only [List.mem_cons, List.not_mem_nil, or_false] at hy
    rcases hy with rfl | rfl | rfl | rfl
    · exact ha
    · exact hb
    · exact hc
    · exact hd
  exact ⟨tell_odd hf (all gx g2 g3 g4') ⟨x, by simp, hx.2.2⟩, tell_odd hf (all g1 gx g3 g4') ⟨x, by simp, hx.2.2⟩, tell_odd hf (all g1 g2 gx g4') ⟨x, by simp, hx.2.2⟩, tell_odd hf (all g1 g2 g3 gx) ⟨x, by simp, hx.2.2⟩⟩
theorem w__law_valueT {T : Tk} {k : KD} (hT : TkOk T) (h : ∀ d T', Tell d → TkOk T' → k d T') : sm__law_value [.tank] T k := by
  rw [e__law_value, b__law_value]
  walk_at "wkn"
  refine w__law_draw hT (by decide) (by decide) fun f T1 f0 f1 hT1 => ?_
  walk_at "wkn"
  refine w__law_four hT1 fun N T2 hN d0 hT2 => ?_
  have hf : f = 0 ∨ f = 1 := by omega
  walk_at "wkn"
  refine w__law_draw hT2 (by decide) (by decide) fun way T3 w0 w1 hT3 => ?_
  walk_at "wkn"
  refine w__law_map (N := N) rfl hN.s1 hN.s2 hN.s3 hN.s4 (by decide) (dt_fst d0) fun m hm => ?_
  have qm : Mq 82 f m := hm.mq hf d0
  walk_at "wkn"
  refine w__law_draw hT3 (by decide) (by decide) fun at' T4 a0 a1 hT4 => ?_
  walk_at "wkn"
  refine iteB_of (fun _ => ?_) (fun _ => ?_)
  · walk_at "wkn"
    refine w__law_pick hT4 (by simp) (by simp) fun x T5 hx hT5 => ?_
    obtain ⟨t, rfl, ht⟩ : ∃ t : Gi, x = gD t ∧ Nz 8 t := by
      have sm : ∀ a b : Int, a.natAbs < 4 → b.natAbs < 4 → Nz 8 ⟨a, b⟩ := fun a b x y => (nz_of (n := 2) (by unfold Sz; omega) (by unfold Sz; omega)).mono (by decide)
      simp only [List.mem_cons, List.not_mem_nil, or_false] at hx
      rcases hx with rfl | rfl | rfl | rfl
      · exact ⟨⟨0, 1⟩, rfl, sm _ _ (by decide) (by decide)⟩
      · exact ⟨⟨-1, 0⟩, rfl, sm _ _ (by decide) (by decide)⟩
      · exact ⟨⟨2, 0⟩, rfl, sm _ _ (by decide) (by decide)⟩
      · exact ⟨⟨1, 1⟩, rfl, sm _ _ (by decide) (by decide)⟩
    walk_at "wki"
    refine w__law_timesG qm.s1.cz ht.cz (by decide) (by decide) ?_
    walk_at "wki"
    refine w__law_timesG qm.s2.cz ht.cz (by decide) (by decide) ?_
    walk_at "wki"
    refine w__law_timesG qm.s3.cz ht.cz (by decide) (by decide) ?_
    walk_at "wki"
    refine w__law_timesG qm.s4.cz ht.cz (by decide) (by decide) ?_
    walk_at "wki"
    exact h _ _ (tell_g (n := 82 + 8) (N := (m.1 * t, m.2.1 * t, m.2.2.1 * t, m.2.2.2 * t)) hf (n4_times qm.n4 ht) (by decide)) hT5
  walk_at "wkn"
  refine iteB_of (fun _ => ?_) (fun _ => ?_)
  · walk_at "wkn"
    refine w__law_pick hT4 (by simp) (by simp) fun x T5 hx hT5 => ?_
    simp only [List.mem_cons, List.not_mem_nil, or_false] at hx
    obtain ⟨t1, t2, t3, t4⟩ := tell_at hf qm.n4 (odd_of hx)
    clear hx
    generalize e : 1 + at' = p
    obtain rfl | rfl | rfl | rfl : p = 1 ∨ p = 2 ∨ p = 3 ∨ p = 4 := by omega
    · walk_at "wkn"
      exact h _ _ t1 hT5
    · walk_at "wkn"
      exact h _ _ t2 hT5
    · walk_at "wkn"
      exact h _ _ t3 hT5
    · walk_at "wkn"
      exact h _ _ t4 hT5
  walk_at "wkn"
  refine iteB_of (fun _ => ?_) (fun _ => ?_)
  · walk_at "wkn"
    refine w__law_pick hT4 (by simp) (by simp) fun x T5 hx hT5 => ?_
    have nf : noF x := by
      simp only [List.mem_cons, List.not_mem_nil, or_false] at hx
      rcases hx with rfl | rfl | rfl | rfl | rfl | rfl
      · exact .inl rfl
      · exact .inr (.inl rfl)
      · exact .inr (.inr (.inl rfl))
      · exact .inr (.inr (.inr (.inl rfl)))
      · exact .inr (.inr (.inr (.inr (.inl rfl))))
      · exact .inr (.inr (.inr (.inr (.inr rfl))))
    walk_at "wkn"
    exact h _ _ (tell_flag nf) hT5
  walk_at "wkn"
  refine iteB_of (fun _ => ?_) (fun _ => ?_)
  · walk_at "wkn"
    refine w__law_pick hT4 (by simp) (by simp) fun x T5 hx hT5 => ?_
    simp only [List.mem_cons, List.not_mem_nil, or_false] at hx
    refine h _ _ (tell_n5 ?_) hT5
    rcases hx with rfl | rfl | rfl | rfl | rfl | rfl | rfl | rfl | rfl
    all_goals exact ⟨trivial, fun xs e => by cases e <;> simp⟩
  walk_at "wkn"
  refine iteB_of (fun _ => ?_) (fun _ => ?_)
  · walk_at "wkn"
    rw [fMulT_tup]
    refine ⟨⟨by simp, by decide, by decide, by decide⟩, ?_⟩
    rw [show repD [D.tup [.int 0, .int 0]] (4 : Int).toNat = [gD ⟨0, 0⟩, gD ⟨0, 0⟩, gD ⟨0, 0⟩, gD ⟨0, 0⟩] from rfl]
    walk_at "wkn"
    refine w__law_pick hT4 (by simp) (by simp) fun x T5 hx hT5 => ?_
    simp only [List.mem_cons, List.not_mem_nil, or_false] at hx
    have sm : ∀ a b : Int, a.natAbs < 4 → b.natAbs < 4 → Nz 8 ⟨a, b⟩ := fun a b x y => (nz_of (n := 2) (by unfold Sz; omega) (by unfold Sz; omega)).mono (by decide)
    rcases hx with rfl | rfl | rfl
    · walk_at "wkn"
      exact h _ _ (tell_g (n := 8) (N := (⟨0, 0⟩, ⟨0, 0⟩, ⟨0, 0⟩, ⟨0, 0⟩)) hf ⟨sm _ _ (by decide) (by decide), sm _ _ (by decide) (by decide), sm _ _ (by decide) (by decide), sm _ _ (by decide) (by decide)⟩ (by decide)) hT5
    · walk_at "wkn"
      exact h _ _ (tell_g (n := 8) (N := (⟨1, 0⟩, ⟨1, 0⟩, ⟨1, 0⟩, ⟨1, 0⟩)) hf ⟨sm _ _ (by decide) (by decide), sm _ _ (by decide) (by decide), sm _ _ (by decide) (by decide), sm _ _ (by decide) (by decide)⟩ (by decide)) hT5
    · walk_at "wkn"
      exact h _ _ (tell_g (n := 8) (N := (⟨1, 1⟩, ⟨2, 0⟩, ⟨1, 0⟩, ⟨1, -1⟩)) hf ⟨sm _ _ (by decide) (by decide), sm _ _ (by decide) (by decide), sm _ _ (by decide) (by decide), sm _ _ (by decide) (by decide)⟩ (by decide)) hT5
  walk_at "wkn"
  refine iteB_of (fun _ => ?_) (fun _ => ?_)
  · walk_at "wkn"
    exact h _ _ (tell_g (n := 82) (N := N) hf hN (by decide)) hT4
  · walk_at "wkn"
    exact h _ _ (tell_g (n := 82) (N := m) hf qm.n4 (by decide)) hT4

theorem w__law_complexN {T : Tk} {k : KD} (hT : TkOk T) (h : ∀ (z : Gi) T', Nz 82 z → TkOk T' → k (gD z) T') : sm__law_complex [.tank] T k := by
  rw [e__law_complex, b__law_complex]
  walk_at "wk"
  refine w__law_number hT fun a T1 ha hT1 => ?_
  walk_at "wk"
  refine w__law_number hT1 fun b T2 hb hT2 => ?_
  walk_at "wk"
  exact h ⟨a, b⟩ T2 (nz_of (n := 40) ha hb) hT2
theorem N4.mono90 {N : G4} (h : N4 82 N) : N4 90 N := ⟨h.s1.mono (by decide), h.s2.mono (by decide), h.s3.mono (by decide), h.s4.mono (by decide)⟩
theorem val_for {K : dEnds} {A1 A2 A3 A4 A5 A6 A7 : Option SV} (fin : ∀ T x y z, TkOk T → K.nx [some .tank, A1, A2, A3, A4, A5, A6, A7, x, y, z] T) :
    ∀ (is : List D) (x y z : Option SV) (T : Tk), TkOk T → forL (gN 8) (sSeq (sAsg (dCall 1 sm__law_value (aTank 0 (aNil))) (gN 9)) (sSeq (sAsg (dCall 1 sm__law_is_map (aCons (dVar 9) (aNil))) (gN 10)) (sIf (dTst (dOp (oF fNe) (dBlt (oG fRepr) (aCons (dLst (aCons (dCall 1 sm_is_map (aCons (dVar 9) (aNil))) (aCons (dCall 1 sm_is_map (aCons (dVar 9) (aNil))) (aNil)))) (aNil))) (dBlt (oG fRepr) (aCons (dLst (aCons (dVar 10) (aCons (dVar 10) (aNil)))) (aNil))))) (sRet (dC (.bl false))) ((fun k ρ T => k.nx ρ T))))) K is [some .tank, A1, A2, A3, A4, A5, A6, A7, x, y, z] T
  | [], x, y, z, T, hT => fin T x y z hT
  | i :: is, x, y, z, T, hT => by
    have ih := val_for (A1 := A1) (A2 := A2) (A3 := A3) (A4 := A4) (A5 := A5) (A6 := A6) (A7 := A7) fin is
    rw [forL_c]
    walk_at "wkn"
    refine w__law_valueT hT fun d T1 ⟨b, t1, t2⟩ hT1 => ?_
    walk_at "wkn"
    refine t2 ?_
    walk_at "wkn"
    refine t1 ?_
    walk_at "wkn"
    refine t1 ?_
    walk_at "wkn"
    have sh : (D.lst [D.bl b, D.bl b]).shOk := lite_shOk (by cases b <;> simp [D.lite, D.liteL]) (Nat.le_of_ble_eq_true rfl) (Nat.le_of_ble_eq_true rfl)
    exact ⟨sh, sh, ih _ _ _ T1 hT1⟩
theorem w__law_right {T : Tk} {k : KD} (hT : TkOk T) (h : ∀ T', k (.bl true) T') : sm__law_right [.tank] T k := by
  rw [e__law_right, b__law_right]
  walk_at "wkn"
  refine w__law_draw hT (by decide) (by decide) fun f T1 f0 f1 hT1 => ?_
  walk_at "wkn"
  refine w__law_four hT1 fun N T2 hN d0 hT2 => ?_
  have hf : f = 0 ∨ f = 1 := by omega
  walk_at "wkn"
  refine w__law_complexN hT2 fun t0 T3 ht0 hT3 => ?_
  walk_at "wkn"
  rw [dec_gi]
  by_cases tz : t0 = 0
  · refine iteB_p (decide_eq_true tz) ?_
    walk_at "wkn"
    have ht : Nz 90 (⟨0, -2⟩ : Gi) := (nz_of (n := 2) (by unfold Sz; decide) (by unfold Sz; decide)).mono (by decide)
    have tn : (⟨0, -2⟩ : Gi) ≠ 0 := fun z => absurd (congrArg Gi.im z) (by decide)
    refine w__law_complexN hT3 fun g1 T4 hg1 hT4 => ?_
    walk_at "wkn"
    refine w__law_complexN hT4 fun g2 T5 hg2 hT5 => ?_
    walk_at "wkn"
    refine w__law_complexN hT5 fun g3 T6 hg3 hT6 => ?_
    walk_at "wkn"
    refine w__law_complexN hT6 fun g4' T7 hg4 hT7 => ?_
    walk_at "wkn"
    obtain ⟨G, hG, e1, e2, e3, e4⟩ : ∃ G : G4, N4 82 G ∧ g1 = G.1 ∧ g2 = G.2.1 ∧ g3 = G.2.2.1 ∧ g4' = G.2.2.2 := ⟨(g1, g2, g3, g4'), ⟨hg1, hg2, hg3, hg4⟩, rfl, rfl, rfl, rfl⟩
    subst e1 e2 e3 e4
    refine w__law_form_right (t := ⟨0, -2⟩) hf (hN.mono90) ht tn d0 ?_
    walk_at "wkn"
    refine w__law_det (N := G) hG (by decide) ?_
    walk_at "wkn"
    rw [dec_gi]
    by_cases dg : dtG G = 0
    · refine iteB_n (by simp [dg]) ?_
      walk_at "wkn"
      refine w__law_complexN hT7 fun one T8 ho hT8 => ?_
      walk_at "wkn"
      refine w__law_little hT8 fun two T9 hw hT9 => ?_
      walk_at "wkn"
      refine w__law_timesG (a := G.1) (b := two) hG.s1.cz hw.cz (by decide) (by decide) ?_
      walk_at "wkn"
      refine w__law_timesG (a := G.2.1) (b := two) hG.s2.cz hw.cz (by decide) (by decide) ?_
      walk_at "wkn"
      refine w__law_is_refused (n := 164) (N := (G.1, G.2.1, G.1 * two, G.2.1 * two)) hf ⟨hG.s1.mono (by decide), hG.s2.mono (by decide), hG.s1.mul hw, hG.s2.mul hw⟩ (by unfold dtG; grind) (by decide) ?_
      walk_at "wkn"
      refine w__law_is_refused (n := 82) (N := (0, one, 0, two)) hf ⟨(nz_01 (by decide)).1, ho, (nz_01 (by decide)).1, hw⟩ (by unfold dtG; grind) (by decide) ?_
      walk_at "wkn"
      refine val_for (fun T x y z hT => ?_) (intsL 0 4) none none none T9 hT9
      walk_at "wkn"
      exact h T
    · refine iteB_p (by simp [dg]) ?_
      walk_at "wkn"
      refine w__law_form_right (t := ⟨0, -2⟩) hf (hG.mono90) ht tn dg ?_
      walk_at "wkn"
      refine w__law_complexN hT7 fun one T8 ho hT8 => ?_
      walk_at "wkn"
      refine w__law_little hT8 fun two T9 hw hT9 => ?_
      walk_at "wkn"
      refine w__law_timesG (a := G.1) (b := two) hG.s1.cz hw.cz (by decide) (by decide) ?_
      walk_at "wkn"
      refine w__law_timesG (a := G.2.1) (b := two) hG.s2.cz hw.cz (by decide) (by decide) ?_
      walk_at "wkn"
      refine w__law_is_refused (n := 164) (N := (G.1, G.2.1, G.1 * two, G.2.1 * two)) hf ⟨hG.s1.mono (by decide), hG.s2.mono (by decide), hG.s1.mul hw, hG.s2.mul hw⟩ (by unfold dtG; grind) (by decide) ?_
      walk_at "wkn"
      refine w__law_is_refused (n := 82) (N := (0, one, 0, two)) hf ⟨(nz_01 (by decide)).1, ho, (nz_01 (by decide)).1, hw⟩ (by unfold dtG; grind) (by decide) ?_
      walk_at "wkn"
      refine val_for (fun T x y z hT => ?_) (intsL 0 4) none none none T9 hT9
      walk_at "wkn"
      exact h T
  · refine iteB_n (decide_eq_false tz) ?_
    walk_at "wkn"
    have ht : Nz 90 t0 := ht0.mono (by decide)
    have tn := tz
    refine w__law_complexN hT3 fun g1 T4 hg1 hT4 => ?_
    walk_at "wkn"
    refine w__law_complexN hT4 fun g2 T5 hg2 hT5 => ?_
    walk_at "wkn"
    refine w__law_complexN hT5 fun g3 T6 hg3 hT6 => ?_
    walk_at "wkn"
    refine w__law_complexN hT6 fun g4' T7 hg4 hT7 => ?_
    walk_at "wkn"
    obtain ⟨G, hG, e1, e2, e3, e4⟩ : ∃ G : G4, N4 82 G ∧ g1 = G.1 ∧ g2 = G.2.1 ∧ g3 = G.2.2.1 ∧ g4' = G.2.2.2 := ⟨(g1, g2, g3, g4'), ⟨hg1, hg2, hg3, hg4⟩, rfl, rfl, rfl, rfl⟩
    subst e1 e2 e3 e4
    refine w__law_form_right hf (hN.mono90) ht tn d0 ?_
    walk_at "wkn"
    refine w__law_det (N := G) hG (by decide) ?_
    walk_at "wkn"
    rw [dec_gi]
    by_cases dg : dtG G = 0
    · refine iteB_n (by simp [dg]) ?_
      walk_at "wkn"
      refine w__law_complexN hT7 fun one T8 ho hT8 => ?_
      walk_at "wkn"
      refine w__law_little hT8 fun two T9 hw hT9 => ?_
      walk_at "wkn"
      refine w__law_timesG (a := G.1) (b := two) hG.s1.cz hw.cz (by decide) (by decide) ?_
      walk_at "wkn"
      refine w__law_timesG (a := G.2.1) (b := two) hG.s2.cz hw.cz (by decide) (by decide) ?_
      walk_at "wkn"
      refine w__law_is_refused (n := 164) (N := (G.1, G.2.1, G.1 * two, G.2.1 * two)) hf ⟨hG.s1.mono (by decide), hG.s2.mono (by decide), hG.s1.mul hw, hG.s2.mul hw⟩ (by unfold dtG; grind) (by decide) ?_
      walk_at "wkn"
      refine w__law_is_refused (n := 82) (N := (0, one, 0, two)) hf ⟨(nz_01 (by decide)).1, ho, (nz_01 (by decide)).1, hw⟩ (by unfold dtG; grind) (by decide) ?_
      walk_at "wkn"
      refine val_for (fun T x y z hT => ?_) (intsL 0 4) none none none T9 hT9
      walk_at "wkn"
      exact h T
    · refine iteB_p (by simp [dg]) ?_
      walk_at "wkn"
      refine w__law_form_right hf (hG.mono90) ht tn dg ?_
      walk_at "wkn"
      refine w__law_complexN hT7 fun one T8 ho hT8 => ?_
      walk_at "wkn"
      refine w__law_little hT8 fun two T9 hw hT9 => ?_
      walk_at "wkn"
      refine w__law_timesG (a := G.1) (b := two) hG.s1.cz hw.cz (by decide) (by decide) ?_
      walk_at "wkn"
      refine w__law_timesG (a := G.2.1) (b := two) hG.s2.cz hw.cz (by decide) (by decide) ?_
      walk_at "wkn"
      refine w__law_is_refused (n := 164) (N := (G.1, G.2.1, G.1 * two, G.2.1 * two)) hf ⟨hG.s1.mono (by decide), hG.s2.mono (by decide), hG.s1.mul hw, hG.s2.mul hw⟩ (by unfold dtG; grind) (by decide) ?_
      walk_at "wkn"
      refine w__law_is_refused (n := 82) (N := (0, one, 0, two)) hf ⟨(nz_01 (by decide)).1, ho, (nz_01 (by decide)).1, hw⟩ (by unfold dtG; grind) (by decide) ?_
      walk_at "wkn"
      refine val_for (fun T x y z hT => ?_) (intsL 0 4) none none none T9 hT9
      walk_at "wkn"
      exact h T

theorem w_law {ns : List Int} (h : ns.length ≤ 63) : sm_law [.val (scrD ns)] [] fun r _ => r = .bl true := by
  rw [e_law, b_law, scrD]
  walk_at "ev"
  refine w__law_rounds fun r hr => ?_
  rcases hr with rfl | rfl
  · refine ⟨by decide, by decide, ?_⟩
    simp only [show Int.toNat 2 = 2 from rfl, intsL]
    walk_at "ev"
    refine w__law_tank (by decide) fun T hT => ?_
    walk_at "ev"
    refine w__law_right hT fun T' => ?_
    walk_at "ev"
    refine w__law_tank (by decide) fun T hT => ?_
    walk_at "ev"
    refine w__law_right hT fun T' => ?_
    walk_at "ev"
    simp
  · refine ⟨by decide, by decide, ?_⟩
    simp only [show Int.toNat 3 = 3 from rfl, intsL]
    walk_at "ev"
    refine w__law_tank (by decide) fun T hT => ?_
    walk_at "ev"
    refine w__law_right hT fun T' => ?_
    walk_at "ev"
    refine w__law_tank (by decide) fun T hT => ?_
    walk_at "ev"
    refine w__law_right hT fun T' => ?_
    walk_at "ev"
    refine w__law_tank (by decide) fun T hT => ?_
    walk_at "ev"
    refine w__law_right hT fun T' => ?_
    walk_at "ev"
    simp

theorem w_fin (ns : List Int) (h : ns.length ≤ 63) : sm_law [.val (scrD ns)] [] fun r _ => r = .bl true := w_law h
end L2.G
open PySem PySem.W PyProof.Rows in
set_option maxRecDepth 100000 in
set_option maxHeartbeats 0 in
theorem PySem.Challenge.cw_drawarms_k13_maps_and_their_form_holds : PySem.Challenge.rw_drawarms_k13_maps_and_their_form.Holds := by
  w_on; o_law
  refine HandSHeadRun.head_any (r := PySem.W.OpenLaw.row PySem.Challenge.rw_drawarms_k13_maps_and_their_form) (q := L2.G.hdV) (H := L2.G.hdK) (ob := L2.G.hdO) (M := 20000) (loose := L2.G.hdNames) (d := HandSHeadRun.topDef (PySem.W.OpenLaw.row PySem.Challenge.rw_drawarms_k13_maps_and_their_form).prog 54) (kwd := []) L2.G.hdO_eq
    (by kernel_rfl) (fun s => by kernel_rfl) L2.G.hd_run (by kernel_rfl) (by kernel_rfl) (by kernel_rfl) (by rfl) (by first | assumption | decide +kernel) (by decide +kernel) ⟨rfl, rfl, rfl, rfl, rfl, by decide +kernel⟩ ?hw ?hc
  case hw => w_witness2
  case hc =>
    refine L2.G.g_walkE (l := PySem.Challenge.rw_drawarms_k13_maps_and_their_form) (n := 63) (k := 8) (x := "law") (y := "_law_script") (sem := L2.G.sm_law) rfl (by decide) (by kernel_rfl) ⟨rfl, by decide, by decide⟩ (by kernel_rfl) ?F L2.G.w_fin
    intro w mg h Y G
    obtain ⟨K, KX, c⟩ := Y
    exact ⟨K, KX, fun base hK hG => L2.G.ok_law (L2.G.hd_tx hK hG c)⟩
