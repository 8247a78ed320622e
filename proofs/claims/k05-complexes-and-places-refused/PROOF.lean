import PyProof.Rows.All
import Wide.All
import OpenK.AllK
import Wide.FinOn
import HandS.Base
import HandS.Call
import HandS.List
import HandS.Comp
import HandS.Ends
import HandS.Words
import HandS.Wide
import HandS.Lambda
import HandS.SetIn
import HandS.Gcd
import HandS.IsInst
import HandS.Conv
import HandS.TupAny
import HandS.WideBits
import HandS.Iter
import HandS.RaiseMore
import HandS.Deep
import HandS.ForMost
import HandS.Zip
import HandS.Style
import HandS.Star
import KE.GoesEnum
import HandS.NoneIn
import HandS.Dict
import HandS.TupSets
import KE.KSortTupG
import KE.KStateDown
import HandS.Exc
import HandS.ExcIs
import KE.KTryMore
import HandS.Head0
import HandS.Head1
import HandS.Head2
import HandS.Head3
import HandS.HeadHook1
import HandS.ExcOwn
import HandS.TryOnly
import HandS.TupMul
import HandS.ForExc
import HandS.SetFor
import HandS.Strs
import KE.GoesMore
import PyProof.SeqIndex
import PyProof.WalksMore
import PyProof.MinMaxWalk
import HandS.More
import PySem.Challenge.RW_drawarms_k05_complexes_and_places_refuse
set_option Elab.async false
set_option linter.all false
set_option maxRecDepth 100000
set_option maxHeartbeats 0
namespace L2.G
/-- the defs that make lambdas -/
def lamNames : List PySem.Str := []
end L2.G
namespace L2.G
open PySem PySem.Spec PyProof.Rows

/-! data: what a Python value is, without the heap -/
inductive D where
  | non | bl (b : Bool) | int (i : Int) | str (x : Str) | tup (xs : List D) | lst (xs : List D)
  | obj (C : Addr) (ns : List Str) (vs : List D) | ref (a : Addr) | scr (xs : List D) | dct (ks : List Key) (ds : List D)

mutual
inductive Rep (K : PySem.W.Frag) (F : Hp) : D → V → Prop
  | non : Rep K F .non .non
  | bl (b : Bool) : Rep K F (.bl b) (.bl b)
  | int (i : Int) : Rep K F (.int i) (.int i)
  | str (x : Str) : Rep K F (.str x) (.str x)
  | tup {a : Addr} {xs : List V} {ds : List D} : SqT K F a xs → RepL K F ds xs → Rep K F (.tup ds) (.ref a)
  | lst {a : Addr} {xs : List V} {ds : List D} : F a = some (.lst xs) → RepL K F ds xs → Rep K F (.lst ds) (.ref a)
  | obj {a C dx : Addr} {fs : List (Str × V)} {ns : List Str} {ds : List D} : F a = some (.ins C dx fs) → fs.map (·.1) = ns → RepL K F ds (fs.map (·.2)) → Rep K F (.obj C ns ds) (.ref a)
  | ref (a : Addr) : (K.lookup a).isSome = true → Rep K F (.ref a) (.ref a)
  | scr {a : Addr} {xs : List V} {ds : List D} : SqL K F a xs → RepL K F ds xs → Rep K F (.scr ds) (.ref a)
  | dct {a : Addr} {kvs : List (Key × V)} {ks : List Key} {ds : List D} : F a = some (.dK kvs) → kvs.map (·.1) = ks → RepL K F ds (kvs.map (·.2)) → Rep K F (.dct ks ds) (.ref a)
inductive RepL (K : PySem.W.Frag) (F : Hp) : List D → List V → Prop
  | nil : RepL K F [] []
  | cons {d : D} {ds : List D} {v : V} {vs : List V} : Rep K F d v → RepL K F ds vs → RepL K F (d :: ds) (v :: vs)
end

theorem same_t {K : PySem.W.Frag} {F F' : Hp} {a : Addr} {xs : List V} (e : Same F F') (h : SqT K F a xs) : SqT K F' a xs := by
  rcases h with (h | ⟨o, h⟩) | h
  · left; left; exact e _ _ h
  · left; right; exact ⟨o, e _ _ h⟩
  · right; exact h

mutual
theorem Rep.mono {K : PySem.W.Frag} {F F' : Hp} (e : Same F F') : ∀ {d : D} {v : V}, Rep K F d v → Rep K F' d v
  | _, _, .non => .non
  | _, _, .bl b => .bl b
  | _, _, .int i => .int i
  | _, _, .str x => .str x
  | _, _, .tup h q => .tup (same_t e h) (RepL.mono e q)
  | _, _, .lst h q => .lst (e _ _ h) (RepL.mono e q)
  | _, _, .obj h n q => .obj (e _ _ h) n (RepL.mono e q)
  | _, _, .ref a h => .ref a h
  | _, _, .scr h q => .scr (e.seq h) (RepL.mono e q)
  | _, _, .dct h n q => .dct (e _ _ h) n (RepL.mono e q)
theorem RepL.mono {K : PySem.W.Frag} {F F' : Hp} (e : Same F F') : ∀ {ds : List D} {vs : List V}, RepL K F ds vs → RepL K F' ds vs
  | _, _, .nil => .nil
  | _, _, .cons h q => .cons (Rep.mono e h) (RepL.mono e q)
end
theorem RepL.len {K : PySem.W.Frag} {F : Hp} : ∀ {ds : List D} {vs : List V}, RepL K F ds vs → ds.length = vs.length
  | _, _, .nil => rfl
  | _, _, .cons _ q => by simp [RepL.len q]
theorem RepL.get {K : PySem.W.Frag} {F : Hp} : ∀ {ds : List D} {vs : List V} {i : Nat} {d : D}, RepL K F ds vs → ds[i]? = some d → ∃ v, vs[i]? = some v ∧ Rep K F d v
  | _, _, _, _, .nil, e => by simp at e
  | _, _, 0, _, .cons h _, e => by simp at e; subst e; exact ⟨_, rfl, h⟩
  | _, _, i + 1, _, .cons _ q, e => by
    obtain ⟨v, h1, h2⟩ := RepL.get (i := i) q (by simpa using e)
    exact ⟨v, by simpa using h1, h2⟩
theorem RepL.getV {K : PySem.W.Frag} {F : Hp} : ∀ {ds : List D} {vs : List V} {i : Nat} {v : V}, RepL K F ds vs → vs[i]? = some v → ∃ d, ds[i]? = some d ∧ Rep K F d v
  | _, _, _, _, .nil, e => by simp at e
  | _, _, 0, _, .cons h _, e => by simp at e; subst e; exact ⟨_, rfl, h⟩
  | _, _, i + 1, _, .cons _ q, e => by
    obtain ⟨v, h1, h2⟩ := RepL.getV (i := i) q (by simpa using e)
    exact ⟨v, by simpa using h1, h2⟩
theorem RepL.app {K : PySem.W.Frag} {F : Hp} : ∀ {ds es : List D} {vs ws : List V}, RepL K F ds vs → RepL K F es ws → RepL K F (ds ++ es) (vs ++ ws)
  | _, _, _, _, .nil, q => q
  | _, _, _, _, .cons h t, q => .cons h (RepL.app t q)
theorem RepL.take {K : PySem.W.Frag} {F : Hp} : ∀ {ds : List D} {vs : List V} (n : Nat), RepL K F ds vs → RepL K F (ds.take n) (vs.take n)
  | _, _, 0, _ => .nil
  | _, _, _ + 1, .nil => .nil
  | _, _, n + 1, .cons h t => .cons h (RepL.take n t)
theorem RepL.drop {K : PySem.W.Frag} {F : Hp} : ∀ {ds : List D} {vs : List V} (n : Nat), RepL K F ds vs → RepL K F (ds.drop n) (vs.drop n)
  | _, _, 0, q => q
  | _, _, _ + 1, .nil => .nil
  | _, _, n + 1, .cons _ t => RepL.drop n t
theorem RepL.set {K : PySem.W.Frag} {F : Hp} {d : D} {v : V} (r : Rep K F d v) : ∀ {ds : List D} {vs : List V} (n : Nat), RepL K F ds vs → RepL K F (ds.set n d) (vs.set n v)
  | _, _, _, .nil => .nil
  | _, _, 0, .cons _ t => .cons r t
  | _, _, n + 1, .cons h t => .cons h (RepL.set r n t)

/-! slots, worlds -/
abbrev Tk := List D
inductive SV where
  | val (d : D) | own (xs : List D) | tank | exc (a : Addr) (g : Option (Addr × Str × D)) | fn (f c : Addr) (q : Str) | ptup (ds : List D)
abbrev En := List (Option SV)
abbrev KD := D → Tk → Prop
abbrev dE := En → Tk → KD → Prop
abbrev dT := En → Tk → (Bool → Tk → Prop) → Prop
abbrev dA := En → Tk → (List SV → Tk → Prop) → Prop
structure dEnds where
  nx : En → Tk → Prop
  rt : KD
  bk : En → Tk → Prop
  ct : En → Tk → Prop
abbrev dS := dEnds → En → Tk → Prop

/-- the table of the code objects that the def x makes -/
def tabOf (K : PySem.W.Frag) (x : Str) : Option (Addr × Str) := match PySem.W.nsIn K mainGlobals x with
  | some (some (.ref f)) => (match K.lookup f with
    | some ⟨_, _, .func fd, _⟩ => (match fd.code with
      | .ref c => (match K.lookup c with
        | some ⟨_, _, .fields vs, _⟩ => (match (vs[11]? : Option Value) with
          | some (.ref P) => some (P, x ++ ".<locals>." ++ "<lambda>")
          | _ => none)
        | _ => none)
      | _ => none)
    | _ => none)
  | _ => none
def tabsOf (K : PySem.W.Frag) : List (Addr × Str) := lamNames.filterMap (tabOf K)
/-- no table -/
def noTb (o : HO) : Prop := ∀ ps, o ≠ .tbl ps
structure TabsK (K : PySem.W.Frag) (F H : Hp) : Prop where
  none : ∀ p ∈ tabsOf K, F p.1 = none
  tab : LamX.Tabs (tabsOf K) H
  no : ∀ b o, F b = some o → noTb o
  only : ∀ b ps, H b = some (.tbl ps) → ∃ q, (b, q) ∈ tabsOf K
theorem TabsK.ext {K : PySem.W.Frag} {F H F' H' : Hp} (w : TabsK K F H) (s : ∀ p ∈ tabsOf K, F p.1 = .none → F' p.1 = .none) (e : ∀ b o, H b = some o → (∃ ps, o = .tbl ps) ∨ (∃ q, o = LamX.CodeO b q) → H' b = some o) (n : ∀ b o, F' b = some o → noTb o) (y : ∀ b ps, H' b = some (.tbl ps) → H b = some (.tbl ps)) : TabsK K F' H' :=
  ⟨fun p hp => s p hp (w.none p hp), fun p hp => by
    obtain ⟨ps, h1, h2, h3⟩ := w.tab p hp
    refine ⟨ps, e _ _ h1 (.inl ⟨_, rfl⟩), h2, fun pos cv hc => ?_⟩
    obtain ⟨c, e1, e2⟩ := h3 pos cv hc
    exact ⟨c, e1, e _ _ e2 (.inr ⟨_, rfl⟩)⟩, n, fun b ps q => w.only b ps (y b ps q)⟩
theorem upd_tb {H : Hp} {p : Addr} {o : HO} (n : noTb o) : ∀ b ps, upd H p o b = some (.tbl ps) → H b = some (.tbl ps) := fun b ps q => by
  by_cases hb : b = p
  · subst hb; rw [upd_same] at q; cases q; exact absurd rfl (n ps)
  · rw [upd_ne hb] at q; exact q
/-- a new object -/
theorem TabsK.new {K : PySem.W.Frag} {F H : Hp} {p : Addr} {o : HO} (w : TabsK K F H) (h : H p = .none) (n : noTb o) : TabsK K (upd F p o) (upd H p o) :=
  w.ext (fun q hq e => by
    obtain ⟨ps, h1, _⟩ := w.tab q hq
    rw [upd_ne (ne_of_none h1 h)]
    exact e) (fun b u q _ => by rw [upd_ne (ne_of_none q h)]; exact q) (fun b u q => by
    by_cases hb : b = p
    · subst hb; rw [upd_same] at q; cases q; exact n
    · rw [upd_ne hb] at q; exact w.no b u q) (upd_tb n)
theorem TabsK.own {K : PySem.W.Frag} {F H : Hp} {p : Addr} {o : HO} (w : TabsK K F H) (h : H p = .none) (n : noTb o) : TabsK K F (upd H p o) :=
  w.ext (fun _ _ e => e) (fun b u q _ => by rw [upd_ne (ne_of_none q h)]; exact q) w.no (upd_tb n)
/-- a list that is changed -/
theorem TabsK.chg {K : PySem.W.Frag} {F H : Hp} {p : Addr} {xs : List V} {o : HO} (w : TabsK K F H) (h : H p = some (.lst xs)) (n : noTb o := by exact fun _ z => nomatch z) : TabsK K F (upd H p o) :=
  w.ext (fun _ _ e => e) (fun b u q m => by
    rw [upd_ne (fun z => by
      rw [z, h] at q
      cases q
      rcases m with ⟨_, m⟩ | ⟨_, m⟩
      · cases m
      · unfold LamX.CodeO at m; cases m)]
    exact q) w.no (upd_tb n)
/-- a list of one's own is a value from now on -/
theorem TabsK.frz {K : PySem.W.Frag} {F H : Hp} {p : Addr} {xs : List V} (w : TabsK K F H) (h : H p = some (.lst xs)) : TabsK K (upd F p (.lst xs)) H :=
  w.ext (fun q hq e => by
    obtain ⟨ps, h1, _⟩ := w.tab q hq
    rw [upd_ne (fun z => by rw [z, h] at h1; cases h1)]
    exact e) (fun _ _ q _ => q) (fun b u q => by
    by_cases hb : b = p
    · subst hb; rw [upd_same] at q; cases q; exact fun _ z => nomatch z
    · rw [upd_ne hb] at q; exact w.no b u q) fun _ _ q => q
structure Wt (K : PySem.W.Frag) (T : Tk) (t : Option Addr) (F H : Hp) : Prop where
  sub : Same F H
  tank : ∀ a, t = some a → F a = none ∧ ∃ vs, H a = some (.lst vs) ∧ RepL K F T vs
  tabs : TabsK K F H
structure Grow (t : Option Addr) (F H F' H' : Hp) : Prop where
  sub : Same F F'
  keepT : ∀ a o, H a = some o → t ≠ some a → noTb o → H' a = some o
  new : ∀ a o, H a = some o → F a = none → F' a = none
  there : ∀ a o, H a = some o → ∃ o', H' a = some o'
theorem Grow.keep {t : Option Addr} {F H F' H' : Hp} (g : Grow t F H F' H') (a : Addr) (o : HO) (h : H a = some o) (n : t ≠ some a) (z : noTb o := by exact fun _ z => nomatch z) : H' a = some o := g.keepT a o h n z
theorem Grow.refl (t : Option Addr) (F H : Hp) : Grow t F H F H := ⟨Same.refl _, fun _ _ h _ _ => h, fun _ _ _ h => h, fun _ o h => ⟨o, h⟩⟩
theorem Grow.trans {t : Option Addr} {F H F1 H1 F2 H2 : Hp} (a : Grow t F H F1 H1) (b : Grow t F1 H1 F2 H2) : Grow t F H F2 H2 :=
  ⟨a.sub.trans b.sub, fun c o h n z => b.keep c o (a.keep c o h n z) n z, fun c o h n => let ⟨o', h'⟩ := a.there c o h; b.new c o' h' (a.new c o h n),
    fun c o h => let ⟨o', h'⟩ := a.there c o h; b.there c o' h'⟩

def SlotR (K : PySem.W.Frag) (t : Option Addr) (F H : Hp) : SV → V → Prop
  | .val d, v => Rep K F d v
  | .own xs, v => ∃ l vs, v = .ref l ∧ F l = none ∧ H l = some (.lst vs) ∧ RepL K F xs vs ∧ t ≠ some l
  | .tank, v => ∃ a, t = some a ∧ v = .ref a
  | .exc a g, v => v = .ref a ∧ ∀ dd fl x, g = some (dd, fl, x) → t ≠ some dd ∧ ∃ u, H dd = some (.xd [(fl, u)]) ∧ Rep K F x u
  | .fn f c q, v => v = .ref f ∧ H c = some (LamX.CodeO c q) ∧ t ≠ some c
  | .ptup ds, v => ∃ a o vs, v = .ref a ∧ F a = some (.frz o (.tup vs)) ∧ o.cls = .type "tuple" ∧ o.dict = none ∧ RepL K F ds vs
structure Wd (K : PySem.W.Frag) (ρ : En) (T : Tk) (t : Option Addr) (σ : L2.St) (F H : Hp) : Prop where
  wt : Wt K T t F H
  len : ρ.length = σ.length
  slot : ∀ (i : Nat) s, ρ[i]? = some (some s) → ∃ v, σ[i]? = some (some v) ∧ SlotR K t F H s v
  apart : ∀ (i j : Nat) xs ys l, ρ[i]? = some (some (.own xs)) → ρ[j]? = some (some (.own ys)) → σ[i]? = some (some (.ref l)) → σ[j]? = some (some (.ref l)) → i = j
theorem SlotR.grow {K : PySem.W.Frag} {t : Option Addr} {F H F' H' : Hp} (g : Grow t F H F' H') : ∀ {s : SV} {v : V}, SlotR K t F H s v → SlotR K t F' H' s v
  | .val _, _, h => Rep.mono g.sub h
  | .own _, _, ⟨l, vs, e, n, h, r, ne⟩ => ⟨l, vs, e, g.new _ _ h n, g.keep _ _ h ne, r.mono g.sub, ne⟩
  | .tank, _, h => h
  | .exc _ _, _, ⟨e, h⟩ => ⟨e, fun dd fl x q => let ⟨n, u, h1, r⟩ := h dd fl x q; ⟨n, u, g.keep _ _ h1 n, r.mono g.sub⟩⟩
  | .fn _ _ _, _, ⟨e, h, n⟩ => ⟨e, g.keepT _ _ h n (fun _ z => LamX.codeO_ne _ z), n⟩
  | .ptup _, _, ⟨a, o, vs, e, h, c1, c2, r⟩ => ⟨a, o, vs, e, g.sub _ _ h, c1, c2, r.mono g.sub⟩
theorem Wd.grow {K : PySem.W.Frag} {ρ : En} {T T' : Tk} {t : Option Addr} {σ : L2.St} {F H F' H' : Hp} (w : Wd K ρ T t σ F H) (g : Grow t F H F' H') (w' : Wt K T' t F' H') : Wd K ρ T' t σ F' H' :=
  ⟨w', w.len, fun i s e => let ⟨v, h1, h2⟩ := w.slot i s e; ⟨v, h1, h2.grow g⟩, w.apart⟩

/-! readings -/
def Fin (K : PySem.W.Frag) (t : Option Addr) (F H : Hp) (k : KD) (Q : VK) : Prop := ∀ v H' F' d T', Wt K T' t F' H' → Grow t F H F' H' → Rep K F' d v → k d T' → Q v H'
def tD (K : PySem.W.Frag) (f : dE) : TE := fun σ H Q => ∃ ρ T t F k, Wd K ρ T t σ F H ∧ f ρ T k ∧ Fin K t F H k Q
def tDT (K : PySem.W.Frag) (f : dT) : TT := fun σ H Q => ∃ ρ T t F k, Wd K ρ T t σ F H ∧ f ρ T k ∧ ∀ b H' F' T', Wt K T' t F' H' → Grow t F H F' H' → k b T' → Q b H'
inductive ArgL (K : PySem.W.Frag) (t : Option Addr) (F : Hp) : List SV → List V → Prop
  | nil : ArgL K t F [] []
  | val {d : D} {v : V} {as : List SV} {vs : List V} : Rep K F d v → ArgL K t F as vs → ArgL K t F (.val d :: as) (v :: vs)
  | tank {a : Addr} {as : List SV} {vs : List V} : t = some a → ArgL K t F as vs → ArgL K t F (.tank :: as) (.ref a :: vs)
theorem ArgL.mono {K : PySem.W.Frag} {t : Option Addr} {F F' : Hp} (e : Same F F') : ∀ {as : List SV} {vs : List V}, ArgL K t F as vs → ArgL K t F' as vs
  | _, _, .nil => .nil
  | _, _, .val r q => .val (r.mono e) (q.mono e)
  | _, _, .tank h q => .tank h (q.mono e)
theorem ArgL.len {K : PySem.W.Frag} {t : Option Addr} {F : Hp} : ∀ {as : List SV} {vs : List V}, ArgL K t F as vs → as.length = vs.length
  | _, _, .nil => rfl
  | _, _, .val _ q => by simp [q.len]
  | _, _, .tank _ q => by simp [q.len]
def tDA (K : PySem.W.Frag) (f : dA) : TA := fun σ H Q => ∃ ρ T t F k, Wd K ρ T t σ F H ∧ f ρ T k ∧ ∀ vs H' F' as T', Wt K T' t F' H' → Grow t F H F' H' → ArgL K t F' as vs → k as T' → Q vs H'
abbrev PEd (X : Cx) (e : Expr) (f : dE) : Prop := PE X e (tD X.K f)
abbrev PTd (X : Cx) (e : Expr) (f : dT) : Prop := PT X e (tDT X.K f)
abbrev PAd (X : Cx) (es : List Expr) (f : dA) : Prop := PA X es (tDA X.K f)
theorem pe_imp {X : Cx} {e : Expr} {t u : TE} (h : PE X e t) (i : ∀ σ H Q, u σ H Q → t σ H Q) : PE X e u := ⟨fun pins s σ H Q I q => h.run pins s σ H Q I (i _ _ _ q)⟩
theorem pt_imp {X : Cx} {e : Expr} {t u : TT} (h : PT X e t) (i : ∀ σ H Q, u σ H Q → t σ H Q) : PT X e u := ⟨fun pins s σ H Q I q => h.run pins s σ H Q I (i _ _ _ q)⟩
theorem pw_imp {X : Cx} {e : Expr} {t u : TT} (h : PW X e t) (i : ∀ σ H Q, u σ H Q → t σ H Q) : PW X e u := ⟨fun wh pins s σ H Q I q => h.run wh pins s σ H Q I (i _ _ _ q)⟩
theorem pa_imp {X : Cx} {e : List Expr} {t u : TA} (h : PA X e t) (i : ∀ σ H Q, u σ H Q → t σ H Q) : PA X e u := ⟨fun pos pins s σ H Q I q => h.run pos pins s σ H Q I (i _ _ _ q)⟩
theorem ps_imp {X : Cx} {e : Stmt} {t u : TS} (h : PS X e t) (i : ∀ K σ H, u K σ H → t K σ H) : PS X e u := ⟨fun pins s σ H K I q => h.run pins s σ H K I (i _ _ _ q)⟩
theorem pss_imp {X : Cx} {e : List Stmt} {t u : TS} (h : PSs X e t) (i : ∀ K σ H, u K σ H → t K σ H) : PSs X e u := ⟨fun pins s σ H K I q => h.run pins s σ H K I (i _ _ _ q)⟩

theorem Fin.then {K : PySem.W.Frag} {t : Option Addr} {F H F' H' : Hp} {k : KD} {Q : VK} (f : Fin K t F H k Q) (g : Grow t F H F' H') : Fin K t F' H' k Q :=
  fun v H2 F2 d T2 w g2 r q => f v H2 F2 d T2 w (g.trans g2) r q
/-- a value that needs nothing new -/
theorem Fin.val {K : PySem.W.Frag} {t : Option Addr} {F H : Hp} {k : KD} {Q : VK} {T : Tk} {d : D} {v : V} (f : Fin K t F H k Q) (w : Wt K T t F H) (r : Rep K F d v) (q : k d T) : Q v H :=
  f v H F d T w (Grow.refl _ _ _) r q
theorem same_upd {F : Hp} {p : Addr} {o : HO} (h : F p = none) : Same F (upd F p o) := fun b u e => by rw [upd_ne (ne_of_none e h)]; exact e
theorem grow_new {t : Option Addr} {F H : Hp} {p : Addr} {o : HO} (s : Same F H) (h : H p = none) : Grow t F H (upd F p o) (upd H p o) := by
  have hF : F p = none := s.free h
  refine ⟨same_upd hF, fun a u e _ _ => same_upd h a u e, fun a u e n => ?_, fun a u e => ⟨u, same_upd h a u e⟩⟩
  rw [upd_ne (ne_of_none e h)]
  exact n
theorem grow_own {t : Option Addr} {F H : Hp} {p : Addr} {o : HO} (s : Same F H) (h : H p = none) : Grow t F H F (upd H p o) :=
  ⟨Same.refl _, fun a u e _ _ => same_upd h a u e, fun _ _ _ n => n, fun a u e => ⟨u, same_upd h a u e⟩⟩
theorem same_both {F H : Hp} {p : Addr} {o : HO} (s : Same F H) : Same (upd F p o) (upd H p o) := fun b u e => by
  by_cases hb : b = p
  · subst hb; rw [upd_same] at e ⊢; exact e
  · rw [upd_ne hb] at e ⊢; exact s b u e
theorem wt_new {K : PySem.W.Frag} {T : Tk} {t : Option Addr} {F H : Hp} {p : Addr} {o : HO} (w : Wt K T t F H) (h : H p = none) (nt : noTb o := by exact fun _ z => nomatch z) : Wt K T t (upd F p o) (upd H p o) := by
  refine ⟨same_both w.sub, fun a e => ?_, w.tabs.new h nt⟩
  obtain ⟨n, vs, hv, r⟩ := w.tank a e
  have na : a ≠ p := ne_of_none hv h
  exact ⟨by rw [upd_ne na]; exact n, vs, by rw [upd_ne na]; exact hv, r.mono (same_upd (w.sub.free h))⟩
theorem wt_own {K : PySem.W.Frag} {T : Tk} {t : Option Addr} {F H : Hp} {p : Addr} {o : HO} (w : Wt K T t F H) (h : H p = none) (nt : noTb o := by exact fun _ z => nomatch z) : Wt K T t F (upd H p o) := by
  refine ⟨w.sub.trans (same_upd h), fun a e => ?_, w.tabs.own h nt⟩
  obtain ⟨n, vs, hv, r⟩ := w.tank a e
  exact ⟨n, vs, same_upd h a _ hv, r⟩
theorem Fin.tup {K : PySem.W.Frag} {t : Option Addr} {F H : Hp} {k : KD} {Q : VK} {T : Tk} {ds : List D} {vs : List V} {p : Addr} (f : Fin K t F H k Q) (w : Wt K T t F H) (r : RepL K F ds vs) (h : H p = none) (q : k (.tup ds) T) : Q (.ref p) (upd H p (.tup vs)) :=
  f _ _ (upd F p (.tup vs)) _ T (wt_new w h) (grow_new w.sub h) (.tup (.of upd_same) (r.mono (same_upd (w.sub.free h)))) q
theorem Fin.lst {K : PySem.W.Frag} {t : Option Addr} {F H : Hp} {k : KD} {Q : VK} {T : Tk} {ds : List D} {vs : List V} {p : Addr} (f : Fin K t F H k Q) (w : Wt K T t F H) (r : RepL K F ds vs) (h : H p = none) (q : k (.lst ds) T) : Q (.ref p) (upd H p (.lst vs)) :=
  f _ _ (upd F p (.lst vs)) _ T (wt_new w h) (grow_new w.sub h) (.lst upd_same (r.mono (same_upd (w.sub.free h)))) q
theorem Fin.dct0 {K : PySem.W.Frag} {t : Option Addr} {F H : Hp} {k : KD} {Q : VK} {T : Tk} {p : Addr} (f : Fin K t F H k Q) (w : Wt K T t F H) (h : H p = none) (q : k (.dct [] []) T) : Q (.ref p) (upd H p (.dK [])) :=
  f _ _ (upd F p (.dK [])) _ T (wt_new w h) (grow_new w.sub h) (.dct upd_same rfl .nil) q
theorem rep_int {K : PySem.W.Frag} {F : Hp} {i : Int} {v : V} (r : Rep K F (.int i) v) : v = .int i := by cases r; rfl
theorem rep_bl {K : PySem.W.Frag} {F : Hp} {i : Bool} {v : V} (r : Rep K F (.bl i) v) : v = .bl i := by cases r; rfl
theorem rep_tup {K : PySem.W.Frag} {F : Hp} {ds : List D} {v : V} (r : Rep K F (.tup ds) v) : ∃ a vs, v = .ref a ∧ SqT K F a vs ∧ RepL K F ds vs := by cases r with | tup h q => exact ⟨_, _, rfl, h, q⟩
theorem rep_lst {K : PySem.W.Frag} {F : Hp} {ds : List D} {v : V} (r : Rep K F (.lst ds) v) : ∃ a vs, v = .ref a ∧ F a = some (.lst vs) ∧ RepL K F ds vs := by cases r with | lst h q => exact ⟨_, _, rfl, h, q⟩
theorem rep_scr {K : PySem.W.Frag} {F : Hp} {ds : List D} {v : V} (r : Rep K F (.scr ds) v) : ∃ a vs, v = .ref a ∧ SqL K F a vs ∧ RepL K F ds vs := by cases r with | scr h q => exact ⟨_, _, rfl, h, q⟩
end L2.G

namespace L2.G
open PySem PySem.Spec PyProof.Rows

section
variable {X : Cx}
/-! names, constants -/
def dVar (i : Nat) : dE := fun ρ T k => match ρ[i]? with | some (some (.val d)) => k d T | some (some (.ptup ds)) => k (.tup ds) T | _ => False
theorem d_var (i : Nat) {x : Str} {pos : Pos} (hN : X.N[i]? = some x := by rfl) (hv : Vis X.env.scope x := by first | exact Or.inl rfl | exact Or.inr (Or.inl rfl) | exact Or.inr (Or.inr rfl))
    (hd : (x == ("__debug__" : Str)) = false := by decide) (hc : (x == ("__classdict__" : Str)) = false := by decide) : PEd X (.Name x pos) (dVar i) := by
  refine pe_imp (pe_var hN hv hd hc) fun σ H Q h => ?_
  obtain ⟨ρ, T, t, F, k, w, h, f⟩ := h
  unfold dVar at h
  split at h
  · rename_i d e
    obtain ⟨v, e1, r⟩ := w.slot i _ e
    exact ⟨v, e1, f.val w.wt r h⟩
  · rename_i ds e
    obtain ⟨v, e1, a, o, vs, ev, hF, _, _, r⟩ := w.slot i _ e
    subst ev
    exact ⟨_, e1, f.val w.wt (.tup (.inl (.inr ⟨o, hF⟩)) r) h⟩
  · exact h.elim
def dC (d : D) : dE := fun _ T k => k d T
theorem d_const {e : Expr} {v : V} {d : D} (h : PE X e (tC v)) (r : ∀ F, Rep X.K F d v) : PEd X e (dC d) := by
  refine pe_imp h fun σ H Q h => ?_
  obtain ⟨ρ, T, t, F, k, w, h, f⟩ := h
  exact f.val w.wt (r F) h
theorem d_int {i : Int} {j pos} : PEd X (.Constant (.int i) j pos) (dC (.int i)) := d_const pe_int fun _ => .int i
theorem d_bl {i : Bool} {j pos} : PEd X (.Constant (.bool i) j pos) (dC (.bl i)) := d_const pe_bl fun _ => .bl i
theorem d_non {j pos} : PEd X (.Constant .none j pos) (dC .non) := d_const pe_non fun _ => .non
theorem d_str {x : Str} {j pos} : PEd X (.Constant (.str x) j pos) (dC (.str x)) := d_const pe_str fun _ => .str x
/-- a constant of the module -/
theorem d_glob {x : Str} {v : V} {u : Value} {d : D} {pos : Pos} (hg : Gl X x) (hm : X.mg x = some u) (q : RelV v u) (r : ∀ F, Rep X.K F d v) (hd : (x == ("__debug__" : Str)) = false := by decide) : PEd X (.Name x pos) (dC d) :=
  d_const (pe_glob hg hm q hd) r

/-! two places -/
abbrev Op2 := D → D → (D → Prop) → Prop
def dOp (o : Op2) (fa fb : dE) : dE := fun ρ T k => fa ρ T fun x T1 => fb ρ T1 fun y T2 => o x y fun d => k d T2
def OpS (K : PySem.W.Frag) (r : R2) (o : Op2) : Prop := ∀ {t : Option Addr} {F H : Hp} {T : Tk} {x y : D} {v w : V} {k : KD} {Q : VK}, Wt K T t F H → Rep K F x v → Rep K F y w → o x y (fun d => k d T) → Fin K t F H k Q → r v w H Q
/-- two expressions, one behind the other -/
theorem two {K : PySem.W.Frag} {fa fb : dE} {o : D → D → Tk → KD → Prop} {σ : L2.St} {H : Hp} {Q : VK} {R : V → V → Hp → VK → Prop}
    (s : ∀ {t : Option Addr} {F H : Hp} {T : Tk} {x y : D} {v w : V} {k : KD}, Wt K T t F H → Rep K F x v → Rep K F y w → o x y T k → Fin K t F H k Q → R v w H Q)
    (h : tD K (fun ρ T k => fa ρ T fun x T1 => fb ρ T1 fun y T2 => o x y T2 k) σ H Q) : tD K fa σ H fun v H1 => tD K fb σ H1 fun w H2 => R v w H2 Q := by
  obtain ⟨ρ, T, t, F, k, w, h, f⟩ := h
  refine ⟨ρ, T, t, F, _, w, h, fun v H1 F1 x T1 w1 g1 r1 h1 => ?_⟩
  refine ⟨ρ, T1, t, F1, _, w.grow g1 w1, h1, fun u H2 F2 y T2 w2 g2 r2 h2 => ?_⟩
  exact s w2 (r1.mono g2.sub) r2 h2 (f.then (g1.trans g2))
theorem d_op {op : Operator} {r : R2} {o : Op2} {a b : Expr} {fa fb : dE} {pos : Pos} (ho : OpR X (binaryOp op) r) (s : OpS X.K r o) (ha : PEd X a fa) (hb : PEd X b fb) : PEd X (.BinOp a op b pos) (dOp o fa fb) :=
  pe_imp (pe_op ho ha hb) fun σ H Q h => two (o := fun x y T k => o x y fun d => k d T) (fun w r1 r2 q f => s w r1 r2 q f) h
theorem d_cmp {op : CmpOp} {r : R2} {o : Op2} {a b : Expr} {fa fb : dE} {pos : Pos} (ho : OpR X (compareOp op) r) (s : OpS X.K r o) (ha : PEd X a fa) (hb : PEd X b fb) (hm : behindInMarks op b = false) : PEd X (.Compare a [op] [b] pos) (dOp o fa fb) :=
  pe_imp (pe_cmpR ho ha hb hm) fun σ H Q h => two (o := fun x y T k => o x y fun d => k d T) (fun w r1 r2 q f => s w r1 r2 q f) h

/-- ints -/
def oI (g : Int → Int → Int) : Op2 := fun x y k => match x, y with | .int i, .int j => k (.int (g i j)) | _, _ => False
def oIC (C : Int → Int → Prop) (g : Int → Int → Int) : Op2 := fun x y k => match x, y with | .int i, .int j => C i j ∧ k (.int (g i j)) | _, _ => False
def oB (g : Int → Int → Bool) : Op2 := fun x y k => match x, y with | .int i, .int j => k (.bl (g i j)) | _, _ => False
theorem oI_ok {K : PySem.W.Frag} {g : Int → Int → Int} : OpS K (rI0 fun i j => .int (g i j)) (oI g) := by
  intro t F H T x y v w k Q wt r1 r2 q f
  unfold oI at q
  split at q
  · cases r1; cases r2; exact ⟨_, _, rfl, rfl, f.val wt (.int _) q⟩
  · exact q.elim
theorem oIC_ok {K : PySem.W.Frag} {C : Int → Int → Prop} {g : Int → Int → Int} : OpS K (rI C fun i j => .int (g i j)) (oIC C g) := by
  intro t F H T x y v w k Q wt r1 r2 q f
  unfold oIC at q
  split at q
  · cases r1; cases r2; exact ⟨_, _, rfl, rfl, q.1, f.val wt (.int _) q.2⟩
  · exact q.elim
theorem oB_ok {K : PySem.W.Frag} {g : Int → Int → Bool} : OpS K (rI0 fun i j => .bl (g i j)) (oB g) := by
  intro t F H T x y v w k Q wt r1 r2 q f
  unfold oB at q
  split at q
  · cases r1; cases r2; exact ⟨_, _, rfl, rfl, f.val wt (.bl _) q⟩
  · exact q.elim
/-- sizes -/
def MulOk (i j : Int) : Prop := (i.natAbs < 2 ^ 64 ∨ j.natAbs < 2 ^ 64) ∨ (i.natAbs < 2 ^ 400000 ∧ j.natAbs < 2 ^ 400000)
def DivOk (_ j : Int) : Prop := 0 < j ∧ j.natAbs < 2 ^ 9000
theorem mulQ_of {i j : Int} (h : MulOk i j) : IntMulOk i j := by
  rcases h with h | h
  · exact CMul.ok (h.elim (fun h => .inl (by omega)) fun h => .inr (by omega))
  · exact (wide_mul h.1 h.2 (by decide) (by decide) (by decide)).ok
theorem divW_of {i j : Int} (h : DivOk i j) : CDivW i j := wide_div h.1 h.2 (by decide) (by decide)
theorem op_mulQ : OpR X (binaryOp .Mult) (rI MulOk fun i j => .int (i * j)) := opI fun _ _ _ _ _ _ _ hc q => mul_int q (mulQ_of hc)
theorem op_divQ : OpR X (binaryOp .FloorDiv) (rI DivOk fun i j => .int (i / j)) := fun pins s σ H x y v u Q I rx ry ⟨i, j, e1, e2, c, q⟩ => op_fdivW pins s σ H x y v u Q I rx ry ⟨i, j, e1, e2, divW_of c, q⟩
variable {a b : Expr} {fa fb : dE} {pos : Pos}
/-- -a -/
def dNeg (fa : dE) : dE := fun ρ T k => fa ρ T fun x T1 => match x with | .int i => k (.int (-i)) T1 | _ => False
theorem d_neg (ha : PEd X a fa) : PEd X (.UnaryOp .USub a pos) (dNeg fa) := by
  refine pe_imp (pe_un un_neg ha) fun σ H Q h => ?_
  obtain ⟨ρ, T, t, F, k, w, h, f⟩ := h
  refine ⟨ρ, T, t, F, _, w, h, fun v H1 F1 x T1 w1 g1 r1 h1 => ?_⟩
  split at h1
  · cases r1; exact ⟨_, rfl, (f.then g1).val w1 (.int _) h1⟩
  · exact h1.elim

/-! equality of data -/
mutual
def D.py : D → PyData
  | .non => .none | .bl b => .bool b | .int i => .int i | .str x => .str x | .tup xs => .tuple (D.pyL xs) | .lst xs => .list (D.pyL xs) | .obj _ _ _ => .dict [] | .ref _ => .dict [] | .scr _ => .dict [] | .dct _ _ => .dict []
def D.pyL : List D → List PyData
  | [] => [] | x :: r => x.py :: D.pyL r
end
mutual
def D.isPy : D → Bool
  | .non => true | .bl _ => true | .int _ => true | .str _ => true | .tup xs => D.isPyL xs | .lst xs => D.isPyL xs | .obj _ _ _ => false | .ref _ => false | .scr _ => false | .dct _ _ => false
def D.isPyL : List D → Bool
  | [] => true | x :: r => x.isPy && D.isPyL r
end
mutual
theorem Rep.dp {K : PySem.W.Frag} {F H : Hp} (s : Same F H) : ∀ {d : D} {v : V}, Rep K F d v → d.isPy = true → Dp K H v d.py
  | _, _, .non, _ => .non
  | _, _, .bl b, _ => .bl b
  | _, _, .int i, _ => .int i
  | _, _, .str x, _ => .str x
  | _, _, .tup h q, p => .tup (same_t s h) (RepL.dp s q (by simpa [D.isPy] using p))
  | _, _, .lst h q, p => .lst (.of (s _ _ h)) (RepL.dp s q (by simpa [D.isPy] using p))
  | _, _, .obj _ _ _, p => by simp [D.isPy] at p
  | _, _, .ref _ _, p => by simp [D.isPy] at p
  | _, _, .scr _ _, p => by simp [D.isPy] at p
  | _, _, .dct _ _ _, p => by simp [D.isPy] at p
theorem RepL.dp {K : PySem.W.Frag} {F H : Hp} (s : Same F H) : ∀ {ds : List D} {vs : List V}, RepL K F ds vs → D.isPyL ds = true → DpAll K H vs (D.pyL ds)
  | _, _, .nil, _ => .nil
  | _, _, .cons h q, p => by
    simp only [D.isPyL, Bool.and_eq_true] at p
    exact .cons (Rep.dp s h p.1) (RepL.dp s q p.2)
end
/-- data that == compares -/
def D.eqOk (d : D) : Prop := d.isPy = true ∧ SeqAt.shaped d.py = true
def eqD (x y : D) : Bool := PyData.eqv x.py y.py
def oEq : Op2 := fun x y k => x.eqOk ∧ y.eqOk ∧ k (.bl (eqD x y))
def oNe : Op2 := fun x y k => x.eqOk ∧ y.eqOk ∧ k (.bl (!eqD x y))
theorem oEq_ok {K : PySem.W.Frag} : OpS K (rEqD K) oEq := fun wt r1 r2 ⟨p1, p2, q⟩ f => ⟨_, _, r1.dp wt.sub p1.1, r2.dp wt.sub p2.1, p1.2, p2.2, f.val wt (.bl _) q⟩
theorem oNe_ok {K : PySem.W.Frag} : OpS K (rNeD K) oNe := fun wt r1 r2 ⟨p1, p2, q⟩ f => ⟨_, _, r1.dp wt.sub p1.1, r2.dp wt.sub p2.1, p1.2, p2.2, f.val wt (.bl _) q⟩
/-- == of two ints, two texts, None .. (scalars) -/
def oEqI : Op2 := fun x y k => match x, y with | .int i, .int j => k (.bl (decide (i = j))) | .str i, .str j => k (.bl (decide (i = j))) | .bl i, .bl j => k (.bl (decide (i = j))) | _, _ => False
def oNeI : Op2 := fun x y k => match x, y with | .int i, .int j => k (.bl (!decide (i = j))) | .str i, .str j => k (.bl (!decide (i = j))) | .bl i, .bl j => k (.bl (!decide (i = j))) | _, _ => False
theorem oEqI_ok {K : PySem.W.Frag} : OpS K rEq oEqI := by
  intro t F H T x y v w k Q wt r1 r2 q f
  unfold oEqI at q
  split at q
  · cases r1; cases r2; exact ⟨rfl, by have := f.val wt (.bl _) q; simpa using this⟩
  · cases r1; cases r2; exact ⟨rfl, by have := f.val wt (.bl _) q; simpa using this⟩
  · cases r1; cases r2; exact ⟨rfl, by have := f.val wt (.bl _) q; simpa using this⟩
  · exact q.elim
theorem oNeI_ok {K : PySem.W.Frag} : OpS K rNe oNeI := by
  intro t F H T x y v w k Q wt r1 r2 q f
  unfold oNeI at q
  split at q
  · cases r1; cases r2; exact ⟨rfl, by have := f.val wt (.bl _) q; simpa using this⟩
  · cases r1; cases r2; exact ⟨rfl, by have := f.val wt (.bl _) q; simpa using this⟩
  · cases r1; cases r2; exact ⟨rfl, by have := f.val wt (.bl _) q; simpa using this⟩
  · exact q.elim
/-- is None -/
def D.isNon : D → Bool | .non => true | _ => false
def dIsN (fa : dE) : dE := fun ρ T k => fa ρ T fun x T1 => k (.bl x.isNon) T1
def dNotN (fa : dE) : dE := fun ρ T k => fa ρ T fun x T1 => k (.bl (!x.isNon)) T1
/-! tests -/
def dTst (fa : dE) : dT := fun ρ T k => fa ρ T fun x T1 => match x with | .bl c => k c T1 | _ => False
theorem d_tst (ha : PEd X a fa) (he : ∀ whole, isTrue a X.env whole = (do let v ← whole; standAt a.pos; holding [v] (truthy v)) := by intro _; rfl) : PTd X a (dTst fa) := by
  refine pt_imp (pt_val ha he) fun σ H Q h => ?_
  obtain ⟨ρ, T, t, F, k, w, h, f⟩ := h
  refine ⟨ρ, T, t, F, _, w, h, fun v H1 F1 x T1 w1 g1 r1 h1 => ?_⟩
  split at h1
  · cases r1; exact ⟨_, rfl, f _ _ _ _ w1 g1 h1⟩
  · exact h1.elim
/-- a comparison of two, as a test -/
theorem d_tcmp {op : CmpOp} {r : R2} {o : Op2} (ho : OpR X (compareOp op) r) (s : OpS X.K r o) (ha : PEd X a fa) (hb : PEd X b fb) (hm : behindInMarks op b = false) : PTd X (.Compare a [op] [b] pos) (dTst (dOp o fa fb)) := by
  refine pt_imp (pt_cmpR ho ha hb hm) fun σ H Q h => ?_
  obtain ⟨ρ, T, t, F, k, w, h, f⟩ := h
  have h' : tD X.K (dOp o fa fb) σ H (fun x H' => ∃ c, x = .bl c ∧ Q c H') := by
    refine ⟨ρ, T, t, F, _, w, h, fun v H1 F1 x T1 w1 g1 r1 h1 => ?_⟩
    split at h1
    · cases r1; exact ⟨_, rfl, f _ _ _ _ w1 g1 h1⟩
    · exact h1.elim
  exact two (o := fun x y T k => o x y fun d => k d T) (fun w r1 r2 q f => s w r1 r2 q f) h'
abbrev PWd (X : Cx) (e : Expr) (f : dT) : Prop := PW X e (tDT X.K f)
variable {ta tb : dT} {rest : List Expr}
def dAnd (ta tb : dT) : dT := fun ρ T k => ta ρ T fun c T1 => if c = true then tb ρ T1 k else k false T1
def dOr (ta tb : dT) : dT := fun ρ T k => ta ρ T fun c T1 => if c = true then k true T1 else tb ρ T1 k
def dNot (ta : dT) : dT := fun ρ T k => ta ρ T fun c T1 => k (!c) T1
theorem d_tnot (ha : PTd X a ta) : PTd X (.UnaryOp .Not a pos) (dNot ta) := by
  refine pt_imp (pt_not ha) fun σ H Q h => ?_
  obtain ⟨ρ, T, t, F, k, w, h, f⟩ := h
  exact ⟨ρ, T, t, F, _, w, h, fun v H1 F1 T1 w1 g1 h1 => f _ _ _ _ w1 g1 h1⟩
theorem d_w1a (ha : PTd X a ta) : PWd X (.BoolOp .And [a] pos) ta := pw_and1 ha
theorem d_w1o (ha : PTd X a ta) : PWd X (.BoolOp .Or [a] pos) ta := pw_or1 ha
theorem d_wand (ha : PTd X a ta) (hb : PWd X (.BoolOp .And (b :: rest) pos) tb) : PWd X (.BoolOp .And (a :: b :: rest) pos) (dAnd ta tb) := by
  refine pw_imp (pw_and ha hb) fun σ H Q h => ?_
  obtain ⟨ρ, T, t, F, k, w, h, f⟩ := h
  refine ⟨ρ, T, t, F, _, w, h, fun c H1 F1 T1 w1 g1 h1 => ?_⟩
  cases c with
  | true => exact ⟨ρ, T1, t, F1, k, w.grow g1 w1, h1, fun b H2 F2 T2 w2 g2 h2 => f _ _ _ _ w2 (g1.trans g2) h2⟩
  | false => exact f _ _ _ _ w1 g1 h1
theorem d_wor (ha : PTd X a ta) (hb : PWd X (.BoolOp .Or (b :: rest) pos) tb) : PWd X (.BoolOp .Or (a :: b :: rest) pos) (dOr ta tb) := by
  refine pw_imp (pw_or ha hb) fun σ H Q h => ?_
  obtain ⟨ρ, T, t, F, k, w, h, f⟩ := h
  refine ⟨ρ, T, t, F, _, w, h, fun c H1 F1 T1 w1 g1 h1 => ?_⟩
  cases c with
  | false => exact ⟨ρ, T1, t, F1, k, w.grow g1 w1, h1, fun b H2 F2 T2 w2 g2 h2 => f _ _ _ _ w2 (g1.trans g2) h2⟩
  | true => exact f _ _ _ _ w1 g1 h1
/-- and, or, not as values of truth -/
def dAndV (fa fb : dE) : dE := fun ρ T k => fa ρ T fun x T1 => match x with | .bl c => if c = true then fb ρ T1 k else k (.bl false) T1 | _ => False
def dOrV (fa fb : dE) : dE := fun ρ T k => fa ρ T fun x T1 => match x with | .bl c => if c = true then k (.bl true) T1 else fb ρ T1 k | _ => False
def dNotV (fa : dE) : dE := fun ρ T k => fa ρ T fun x T1 => match x with | .bl c => k (.bl (!c)) T1 | _ => False
theorem d_v1 {op} (ha : PEd X a fa) : PEd X (.BoolOp op [a] pos) fa := pe_one ha
theorem d_andV (ha : PEd X a fa) (hb : PEd X (.BoolOp .And (b :: rest) pos) fb) : PEd X (.BoolOp .And (a :: b :: rest) pos) (dAndV fa fb) := by
  refine pe_imp (pe_and ha hb) fun σ H Q h => ?_
  obtain ⟨ρ, T, t, F, k, w, h, f⟩ := h
  refine ⟨ρ, T, t, F, _, w, h, fun v H1 F1 x T1 w1 g1 r1 h1 => ?_⟩
  split at h1
  · rename_i c
    cases r1
    refine ⟨c, rfl, ?_⟩
    cases c with
    | true => exact ⟨ρ, T1, t, F1, k, w.grow g1 w1, h1, f.then g1⟩
    | false => exact (f.then g1).val w1 (.bl _) h1
  · exact h1.elim
theorem d_orV (ha : PEd X a fa) (hb : PEd X (.BoolOp .Or (b :: rest) pos) fb) : PEd X (.BoolOp .Or (a :: b :: rest) pos) (dOrV fa fb) := by
  refine pe_imp (pe_or ha hb) fun σ H Q h => ?_
  obtain ⟨ρ, T, t, F, k, w, h, f⟩ := h
  refine ⟨ρ, T, t, F, _, w, h, fun v H1 F1 x T1 w1 g1 r1 h1 => ?_⟩
  split at h1
  · rename_i c
    cases r1
    refine ⟨c, rfl, ?_⟩
    cases c with
    | false => exact ⟨ρ, T1, t, F1, k, w.grow g1 w1, h1, f.then g1⟩
    | true => exact (f.then g1).val w1 (.bl _) h1
  · exact h1.elim
theorem d_notV (ha : PEd X a fa) : PEd X (.UnaryOp .Not a pos) (dNotV fa) := by
  refine pe_imp (pe_not ha) fun σ H Q h => ?_
  obtain ⟨ρ, T, t, F, k, w, h, f⟩ := h
  refine ⟨ρ, T, t, F, _, w, h, fun v H1 F1 x T1 w1 g1 r1 h1 => ?_⟩
  split at h1
  · cases r1; exact ⟨_, rfl, (f.then g1).val w1 (.bl _) h1⟩
  · exact h1.elim
def dIf (t : dT) (fa fb : dE) : dE := fun ρ T k => t ρ T fun c T1 => if c = true then fa ρ T1 k else fb ρ T1 k
theorem d_if {c : Expr} {tc : dT} (hc : PTd X c tc) (ha : PEd X a fa) (hb : PEd X b fb) : PEd X (.IfExp c a b pos) (dIf tc fa fb) := by
  refine pe_imp (pe_ifExp hc ha hb) fun σ H Q h => ?_
  obtain ⟨ρ, T, t, F, k, w, h, f⟩ := h
  refine ⟨ρ, T, t, F, _, w, h, fun c H1 F1 T1 w1 g1 h1 => ?_⟩
  cases c with
  | true => exact ⟨ρ, T1, t, F1, k, w.grow g1 w1, h1, f.then g1⟩
  | false => exact ⟨ρ, T1, t, F1, k, w.grow g1 w1, h1, f.then g1⟩

/-! arguments, displays -/
def aNil : dA := fun _ T k => k [] T
def aCons (fe : dE) (fr : dA) : dA := fun ρ T k => fe ρ T fun d T1 => fr ρ T1 fun as T2 => k (.val d :: as) T2
def aTank (i : Nat) (fr : dA) : dA := fun ρ T k => (match ρ[i]? with | some (some .tank) => True | _ => False) ∧ fr ρ T fun as T2 => k (.tank :: as) T2
variable {es : List Expr} {fr : dA}
theorem a_nil : PAd X [] aNil := by
  refine pa_imp pa_nil fun σ H Q h => ?_
  obtain ⟨ρ, T, t, F, k, w, h, f⟩ := h
  exact f _ _ _ _ _ w.wt (Grow.refl _ _ _) .nil h
theorem a_cons {e : Expr} {fe : dE} (he : PEd X e fe) (hr : PAd X es fr) (hs : starEach (e :: es) X.env = (false, eval e X.env) :: starEach es X.env := by rfl) : PAd X (e :: es) (aCons fe fr) := by
  refine pa_imp (pa_cons he hr hs) fun σ H Q h => ?_
  obtain ⟨ρ, T, t, F, k, w, h, f⟩ := h
  refine ⟨ρ, T, t, F, _, w, h, fun v H1 F1 x T1 w1 g1 r1 h1 => ?_⟩
  refine ⟨ρ, T1, t, F1, _, w.grow g1 w1, h1, fun vs H2 F2 as T2 w2 g2 r2 h2 => ?_⟩
  exact f _ _ _ _ _ w2 (g1.trans g2) (.val (r1.mono g2.sub) r2) h2
theorem a_tank (i : Nat) {x : Str} {p : Pos} (hr : PAd X es fr) (hN : X.N[i]? = some x := by rfl) (hv : Vis X.env.scope x := by first | exact Or.inl rfl | exact Or.inr (Or.inl rfl) | exact Or.inr (Or.inr rfl))
    (hd : (x == ("__debug__" : Str)) = false := by decide) (hc : (x == ("__classdict__" : Str)) = false := by decide)
    (hs : starEach (.Name x p :: es) X.env = (false, eval (.Name x p) X.env) :: starEach es X.env := by rfl) : PAd X (.Name x p :: es) (aTank i fr) := by
  refine pa_imp (pa_cons (pe_var hN hv hd hc) hr hs) fun σ H Q h => ?_
  obtain ⟨ρ, T, t, F, k, w, ⟨h0, h⟩, f⟩ := h
  split at h0
  · rename_i e
    obtain ⟨v, e1, a, e2, e3⟩ := w.slot i _ e
    subst e3
    exact ⟨_, e1, ρ, T, t, F, _, w, h, fun vs H2 F2 as T2 w2 g2 r2 h2 => f _ _ _ _ _ w2 g2 (.tank e2 r2) h2⟩
  · exact h0.elim
def vals? : List SV → Option (List D)
  | [] => some []
  | .val d :: r => (vals? r).map (d :: ·)
  | _ :: _ => none
theorem ArgL.vals {K : PySem.W.Frag} {t : Option Addr} {F : Hp} : ∀ {as : List SV} {vs : List V} {ds : List D}, ArgL K t F as vs → vals? as = some ds → RepL K F ds vs
  | _, _, _, .nil, e => by cases e; exact .nil
  | _, _, ds, .val r q, e => by
    simp only [vals?, Option.map_eq_some_iff] at e
    obtain ⟨es, h1, rfl⟩ := e
    exact .cons r (q.vals h1)
  | _, _, _, .tank _ _, e => by simp [vals?] at e
def dTup (fr : dA) : dE := fun ρ T k => fr ρ T fun as T1 => match vals? as with | some ds => ds.length ≤ 1000000 ∧ k (.tup ds) T1 | none => False
def dLst (fr : dA) : dE := fun ρ T k => fr ρ T fun as T1 => match vals? as with | some ds => ds.length ≤ 1000000 ∧ k (.lst ds) T1 | none => False
theorem small_line {n : Nat} (h : n ≤ 1000000) : n ≤ sizeLine := by rw [sizeLine_eq]; omega
theorem d_tup {x1} (h : PAd X es fr) : PEd X (.Tuple es x1 pos) (dTup fr) := by
  refine pe_imp (pe_tup h) fun σ H Q h => ?_
  obtain ⟨ρ, T, t, F, k, w, h, f⟩ := h
  refine ⟨ρ, T, t, F, _, w, h, fun vs H1 F1 as T1 w1 g1 r1 h1 => ?_⟩
  split at h1
  · rename_i ds e
    have r := r1.vals e
    exact ⟨by rw [← r.len]; exact small_line h1.1, fun p hp => (f.then g1).tup w1 r hp h1.2⟩
  · exact h1.elim
theorem d_lst (h : PAd X es fr) : PEd X (.List es pos) (dLst fr) := by
  refine pe_imp (pe_lst h) fun σ H Q h => ?_
  obtain ⟨ρ, T, t, F, k, w, h, f⟩ := h
  refine ⟨ρ, T, t, F, _, w, h, fun vs H1 F1 as T1 w1 g1 r1 h1 => ?_⟩
  split at h1
  · rename_i ds e
    have r := r1.vals e
    exact ⟨by rw [← r.len]; exact small_line h1.1, fun p hp => (f.then g1).lst w1 r hp h1.2⟩
  · exact h1.elim

/-! items, slices -/
def oIx : Op2 := fun x y k => match x, y with
  | .tup xs, .int i => (match atI xs i with | some d => k d | none => False)
  | .lst xs, .int i => (match atI xs i with | some d => k d | none => False)
  | .scr xs, .int i => (match atI xs i with | some d => k d | none => False)
  | _, _ => False
theorem atI_rep {K : PySem.W.Frag} {F : Hp} {xs : List D} {vs : List V} {i : Int} {d : D} (r : RepL K F xs vs) (h : atI xs i = some d) : ∃ v, atI vs i = some v ∧ Rep K F d v := by
  unfold atI at h ⊢
  rw [← r.len]
  cases e : ixN xs.length i with
  | none => rw [e] at h; cases h
  | some j =>
    rw [e] at h
    exact r.get h
theorem oIx_ok {K : PySem.W.Frag} : OpS K (fun x y H Q => rIxL K x y H Q ∨ rIxT K x y H Q) oIx := by
  intro t F H T x y v w k Q wt r1 r2 q f
  unfold oIx at q
  split at q
  · split at q
    · rename_i d e
      obtain ⟨a, vs, rfl, h, r⟩ := rep_tup r1
      cases r2
      obtain ⟨v, e1, rv⟩ := atI_rep r e
      exact .inr ⟨a, vs, _, v, rfl, rfl, same_t wt.sub h, e1, f.val wt rv q⟩
    · exact q.elim
  · split at q
    · rename_i d e
      obtain ⟨a, vs, rfl, h, r⟩ := rep_lst r1
      cases r2
      obtain ⟨v, e1, rv⟩ := atI_rep r e
      exact .inl ⟨a, vs, _, v, rfl, rfl, .of (wt.sub _ _ h), e1, f.val wt rv q⟩
    · exact q.elim
  · split at q
    · rename_i d e
      obtain ⟨a, vs, rfl, h, r⟩ := rep_scr r1
      cases r2
      obtain ⟨v, e1, rv⟩ := atI_rep r e
      exact .inl ⟨a, vs, _, v, rfl, rfl, wt.sub.seq h, e1, f.val wt rv q⟩
    · exact q.elim
  · exact q.elim
end
end L2.G

namespace L2.G
open PySem PySem.Spec PyProof.Rows

/-! statements: F0, H0 the entry's heaps -/
structure Ws (K : PySem.W.Frag) (ρ : En) (T : Tk) (t : Option Addr) (σ : L2.St) (F0 H0 F H : Hp) : Prop where
  w : Wd K ρ T t σ F H
  g : Grow t F0 H0 F H
  fr : ∀ (i : Nat) xs l, ρ[i]? = some (some (.own xs)) → σ[i]? = some (some (.ref l)) → H0 l = none
theorem Ws.grow {K : PySem.W.Frag} {ρ : En} {T T' : Tk} {t : Option Addr} {σ : L2.St} {F0 H0 F H F' H' : Hp} (w : Ws K ρ T t σ F0 H0 F H) (g : Grow t F H F' H') (w' : Wt K T' t F' H') : Ws K ρ T' t σ F0 H0 F' H' :=
  ⟨w.w.grow g w', w.g.trans g, w.fr⟩
def FinS (K : PySem.W.Frag) (t : Option Addr) (F0 H0 F : Hp) (k : En → Tk → Prop) (n : L2.St → Hp → Prop) : Prop := ∀ ρ T σ F' H', Ws K ρ T t σ F0 H0 F' H' → Same F F' → k ρ T → n σ H'
def FinR (K : PySem.W.Frag) (t : Option Addr) (F0 H0 : Hp) (k : KD) (n : VK) : Prop := ∀ v H F d T, Wt K T t F H → Grow t F0 H0 F H → Rep K F d v → k d T → n v H
structure FinE (K : PySem.W.Frag) (t : Option Addr) (F0 H0 F : Hp) (k : dEnds) (E : Ends) : Prop where
  nx : FinS K t F0 H0 F k.nx E.nx
  rt : FinR K t F0 H0 k.rt E.rt
  bk : FinS K t F0 H0 F k.bk E.bk
  ct : FinS K t F0 H0 F k.ct E.ct
theorem FinS.to {K : PySem.W.Frag} {t : Option Addr} {F0 H0 F F1 : Hp} {k : En → Tk → Prop} {n : L2.St → Hp → Prop} (f : FinS K t F0 H0 F k n) (s : Same F F1) : FinS K t F0 H0 F1 k n := fun ρ T σ F' H' w e q => f ρ T σ F' H' w (s.trans e) q
theorem FinE.to {K : PySem.W.Frag} {t : Option Addr} {F0 H0 F F1 : Hp} {k : dEnds} {E : Ends} (f : FinE K t F0 H0 F k E) (s : Same F F1) : FinE K t F0 H0 F1 k E := ⟨f.nx.to s, f.rt, f.bk.to s, f.ct.to s⟩
def tDS (K : PySem.W.Frag) (f : dS) : TS := fun E σ H => ∃ ρ T t F0 H0 F k, Ws K ρ T t σ F0 H0 F H ∧ f k ρ T ∧ FinE K t F0 H0 F k E
abbrev PSd (X : Cx) (st : Stmt) (f : dS) : Prop := PS X st (tDS X.K f)
abbrev PSsd (X : Cx) (st : List Stmt) (f : dS) : Prop := PSs X st (tDS X.K f)

section
variable {X : Cx} {st : Stmt} {rest : List Stmt} {f g : dS} {e : Expr} {fe : dE} {pos : Pos}
def sSeq (f g : dS) : dS := fun k ρ T => f { k with nx := g k } ρ T
theorem ss_cons (h1 : PSd X st f) (h2 : PSsd X rest g) : PSsd X (st :: rest) (sSeq f g) := by
  refine pss_imp (pss_cons h1 h2) fun E σ H h => ?_
  obtain ⟨ρ, T, t, F0, H0, F, k, w, h, fe⟩ := h
  exact ⟨ρ, T, t, F0, H0, F, _, w, h, ⟨fun ρ' T' σ' F' H' w' s' h' => ⟨ρ', T', t, F0, H0, F', k, w', h', fe.to s'⟩, fe.rt, fe.bk, fe.ct⟩⟩
theorem ss_one (h1 : PSd X st f) : PSsd X [st] f := pss_one h1
theorem ss_nil : PSsd X [] (fun k ρ T => k.nx ρ T) := by
  refine pss_imp pss_nil fun E σ H h => ?_
  obtain ⟨ρ, T, t, F0, H0, F, k, w, h, fe⟩ := h
  exact fe.nx _ _ _ _ _ w (Same.refl _) h
def sRet (fe : dE) : dS := fun k ρ T => fe ρ T k.rt
theorem s_ret (he : PEd X e fe) : PSd X (.Return (some e) pos) (sRet fe) := by
  refine ps_imp (ps_ret he) fun E σ H h => ?_
  obtain ⟨ρ, T, t, F0, H0, F, k, w, h, fe⟩ := h
  exact ⟨ρ, T, t, F, _, w.w, h, fun v H1 F1 d T1 w1 g1 r1 h1 => fe.rt _ _ _ _ _ w1 (w.g.trans g1) r1 h1⟩
def sExpr (fe : dE) : dS := fun k ρ T => fe ρ T fun _ T1 => k.nx ρ T1
def sIf (c : dT) (f g : dS) : dS := fun k ρ T => c ρ T fun b T1 => if b = true then f k ρ T1 else g k ρ T1
theorem s_if {c : Expr} {tc : dT} {a b : List Stmt} (hc : PTd X c tc) (ha : PSsd X a f) (hb : PSsd X b g) : PSd X (.If c a b pos) (sIf tc f g) := by
  refine ps_imp (ps_if hc ha hb) fun E σ H h => ?_
  obtain ⟨ρ, T, t, F0, H0, F, k, w, h, fe⟩ := h
  refine ⟨ρ, T, t, F, _, w.w, h, fun b H1 F1 T1 w1 g1 h1 => ?_⟩
  cases b with
  | true => exact ⟨ρ, T1, t, F0, H0, F1, k, w.grow g1 w1, h1, fe.to g1.sub⟩
  | false => exact ⟨ρ, T1, t, F0, H0, F1, k, w.grow g1 w1, h1, fe.to g1.sub⟩
/-! storing a value in a slot -/
theorem getSet {α : Type} {l : List α} {i j : Nat} {a : α} {b : α} (h : (l.set i a)[j]? = some b) : (i = j ∧ i < l.length ∧ b = a) ∨ (i ≠ j ∧ l[j]? = some b) := by
  by_cases e : i = j
  · subst e
    by_cases hl : i < l.length
    · rw [List.getElem?_set_self hl] at h; cases h; exact .inl ⟨rfl, hl, rfl⟩
    · rw [List.getElem?_eq_none (by simpa using hl)] at h; cases h
  · rw [List.getElem?_set_ne e] at h; exact .inr ⟨e, h⟩
theorem Wd.put {K : PySem.W.Frag} {ρ : En} {T : Tk} {t : Option Addr} {σ : L2.St} {F H : Hp} (w : Wd K ρ T t σ F H) {i : Nat} {d : D} {v : V} (r : Rep K F d v) : Wd K (ρ.set i (some (.val d))) T t (σ.set i (some v)) F H := by
  refine ⟨w.wt, by simpa using w.len, fun j s e => ?_, fun j j' xs ys l e1 e2 e3 e4 => ?_⟩
  · rcases getSet e with ⟨rfl, hl, e'⟩ | ⟨ne, e'⟩
    · cases e'
      exact ⟨v, by rw [List.getElem?_set_self (by rw [← w.len]; exact hl)], r⟩
    · obtain ⟨u, h1, h2⟩ := w.slot j s e'
      exact ⟨u, by rw [List.getElem?_set_ne ne]; exact h1, h2⟩
  · rcases getSet e1 with ⟨_, _, z⟩ | ⟨n1, e1⟩
    · cases z
    · rcases getSet e2 with ⟨_, _, z⟩ | ⟨n2, e2⟩
      · cases z
      · rw [List.getElem?_set_ne n1] at e3
        rw [List.getElem?_set_ne n2] at e4
        exact w.apart j j' xs ys l e1 e2 e3 e4
theorem Ws.put {K : PySem.W.Frag} {ρ : En} {T : Tk} {t : Option Addr} {σ : L2.St} {F0 H0 F H : Hp} (w : Ws K ρ T t σ F0 H0 F H) {i : Nat} {d : D} {v : V} (r : Rep K F d v) : Ws K (ρ.set i (some (.val d))) T t (σ.set i (some v)) F0 H0 F H := by
  refine ⟨w.w.put r, w.g, fun j xs l e1 e2 => ?_⟩
  rcases getSet e1 with ⟨_, _, z⟩ | ⟨ne, e1⟩
  · cases z
  · rw [List.getElem?_set_ne ne] at e2
    exact w.fr j xs l e1 e2

/-! targets -/
abbrev dG := D → En → Tk → (En → Tk → Prop) → Prop
def tDG (K : PySem.W.Frag) (g : dG) : TG := fun v σ H Q => ∃ ρ T t F0 H0 F d k, Ws K ρ T t σ F0 H0 F H ∧ Rep K F d v ∧ g d ρ T k ∧ FinS K t F0 H0 F k Q
abbrev PGd (X : Cx) (tg : Expr) (g : dG) : Prop := PG X tg (tDG X.K g)
abbrev dGs := List D → En → Tk → (En → Tk → Prop) → Prop
def tDGs (K : PySem.W.Frag) (g : dGs) : TGs := fun vs σ H Q => ∃ ρ T t F0 H0 F ds k, Ws K ρ T t σ F0 H0 F H ∧ RepL K F ds vs ∧ g ds ρ T k ∧ FinS K t F0 H0 F k Q
theorem pg_imp {tg : Expr} {t u : TG} (h : PG X tg t) (i : ∀ v σ H Q, u v σ H Q → t v σ H Q) : PG X tg u := ⟨fun pins s σ H v u Q I r q => h.run pins s σ H v u Q I r (i _ _ _ _ q)⟩
theorem pgs_imp {tg : List Expr} {t u : TGs} (h : PGs X tg t) (i : ∀ v σ H Q, u v σ H Q → t v σ H Q) : PGs X tg u := ⟨fun pins s σ H v u Q I r q => h.run pins s σ H v u Q I r (i _ _ _ _ q)⟩
def gN (i : Nat) : dG := fun d ρ T k => k (ρ.set i (some (.val d))) T
theorem g_name (i : Nat) {x : Str} (hN : X.N.Nodup) (hi : X.N[i]? = some x := by rfl) (hx : Loc X.env.scope x := by first | exact Or.inl rfl | exact Or.inr rfl) (hf : X.fn x = true ∨ X.env.scope.names.lookup x = some .local := by first | exact .inl rfl | exact .inr rfl | assumption) : PGd X (.Name x pos) (gN i) := by
  refine pg_imp (pg_name hN hi hx hf) fun v σ H Q h => ?_
  obtain ⟨ρ, T, t, F0, H0, F, d, k, w, r, h, f⟩ := h
  exact f _ _ _ _ _ (w.put r) (Same.refl _) h
def gsNil : dGs := fun ds ρ T k => ds = [] ∧ k ρ T
def gsCons (g : dG) (gs : dGs) : dGs := fun ds ρ T k => match ds with | d :: r => g d ρ T fun ρ' T' => gs r ρ' T' k | [] => False
theorem gs_nil : PGs X [] (tDGs X.K gsNil) := by
  refine pgs_imp pgs_nil fun vs σ H Q h => ?_
  obtain ⟨ρ, T, t, F0, H0, F, ds, k, w, r, ⟨e, h⟩, f⟩ := h
  subst e
  cases r
  exact ⟨rfl, f _ _ _ _ _ w (Same.refl _) h⟩
theorem gs_cons {tg : Expr} {tgs : List Expr} {g : dG} {gs : dGs} (h1 : PGd X tg g) (h2 : PGs X tgs (tDGs X.K gs)) (hs : (assignEach (tg :: tgs) X.env).map (·.2) = assign tg X.env :: (assignEach tgs X.env).map (·.2) := by rfl) : PGs X (tg :: tgs) (tDGs X.K (gsCons g gs)) := by
  refine pgs_imp (pgs_cons h1 h2 hs) fun vs σ H Q h => ?_
  obtain ⟨ρ, T, t, F0, H0, F, ds, k, w, r, h, f⟩ := h
  cases r with
  | nil => exact h.elim
  | cons r1 rr => exact ⟨_, _, rfl, ρ, T, t, F0, H0, F, _, _, w, r1, h, fun ρ' T' σ' F' H' w' s' h' => ⟨ρ', T', t, F0, H0, F', _, k, w', rr.mono s', h', f.to s'⟩⟩
def gT (n : Nat) (gs : dGs) : dG := fun d ρ T k => match d with | .tup ds => ds.length = n ∧ gs ds ρ T k | _ => False
def sAsg (fe : dE) (g : dG) : dS := fun k ρ T => fe ρ T fun d T1 => g d ρ T1 k.nx
theorem asg_ok {K : PySem.W.Frag} {g : dG} {σ : L2.St} {H : Hp} {E : Ends} (h : tDS K (sAsg fe g) E σ H) : tD K fe σ H fun v H1 => tDG K g v σ H1 E.nx := by
  obtain ⟨ρ, T, t, F0, H0, F, k, w, h, fe⟩ := h
  refine ⟨ρ, T, t, F, _, w.w, h, fun v H1 F1 d T1 w1 g1 r1 h1 => ?_⟩
  exact ⟨ρ, T1, t, F0, H0, F1, d, _, w.grow g1 w1, r1, h1, fe.nx.to g1.sub⟩
theorem s_asg {tg : Expr} {g : dG} (he : PEd X e fe) (hg : PGd X tg g) (hs : swapsWithSole [tg] e pos.line X.env = pure false := by rfl) (hw : swappedStores [tg] e X.env = pure none := by rfl)
    (h1 : (assignEach [tg] X.env).map (·.2) = [assign tg X.env] := by rfl) : PSd X (.Assign [tg] e pos) (sAsg fe g) :=
  ps_imp (ps_asg he hg hs hw h1) fun _ _ _ h => asg_ok h
theorem s_set (i : Nat) {x : Str} {pos' : Pos} (hN : X.N.Nodup) (he : PEd X e fe) (hi : X.N[i]? = some x := by rfl) (hx : Loc X.env.scope x := by first | exact Or.inl rfl | exact Or.inr rfl) (hs : swapsWith e (some (.Name x pos')) pos.line X.env = pure false := by rfl)
    (hf : X.fn x = true ∨ X.env.scope.names.lookup x = some .local := by first | exact .inl rfl | exact .inr rfl | assumption) : PSd X (.Assign [.Name x pos'] e pos) (sAsg fe (gN i)) := by
  refine ps_imp (ps_set hN hi hx he hs hf) fun E σ H h => ?_
  obtain ⟨ρ, T, t, F0, H0, F, k, w, h, fe⟩ := h
  exact ⟨ρ, T, t, F, _, w.w, h, fun v H1 F1 d T1 w1 g1 r1 h1 => fe.nx _ _ _ _ _ ((w.grow g1 w1).put r1) g1.sub h1⟩
/-- a, b = x, y -/
def sPar (i j : Nat) (fr : dA) : dS := fun k ρ T => fr ρ T fun as T1 => match as with | [.val d, .val e] => k.nx ((ρ.set i (some (.val d))).set j (some (.val e))) T1 | _ => False
theorem s_par (i j : Nat) {x y : Str} {a b : Expr} {fr : dA} {px py pt : Pos} {kt k2 pt2} (hc : X.calm = true) (hN : X.N.Nodup) (ha : PAd X [a, b] fr)
    (hi : X.N[i]? = some x := by rfl) (hj : X.N[j]? = some y := by rfl) (hij : i ≠ j := by decide) (hx : X.env.scope.names.lookup x = some .local := by rfl) (hy : X.env.scope.names.lookup y = some .local := by rfl)
    (hw : swappedStores [.Tuple [.Name x px, .Name y py] kt pt] (.Tuple [a, b] k2 pt2) X.env = pure (some [x, y]) := by rfl)
    (hs : swapsWithSole [.Tuple [.Name x px, .Name y py] kt pt] (.Tuple [a, b] k2 pt2) pos.line X.env = pure false := by rfl) : PSd X (.Assign [.Tuple [.Name x px, .Name y py] kt pt] (.Tuple [a, b] k2 pt2) pos) (sPar i j fr) := by
  refine ps_imp (ps_par hc hN hi hj hij hx hy ha hw hs) fun E σ H h => ?_
  obtain ⟨ρ, T, t, F0, H0, F, k, w, h, fe⟩ := h
  refine ⟨ρ, T, t, F, _, w.w, h, fun vs H1 F1 as T1 w1 g1 r1 h1 => ?_⟩
  split at h1
  · cases r1 with
    | val r1 rr =>
      cases rr with
      | val r2 rr =>
        cases rr
        exact ⟨_, _, rfl, fe.nx _ _ _ _ _ (((w.grow g1 w1).put r1).put r2) g1.sub h1⟩
  · exact h1.elim

/-! loops -/
def sWhile (c : dT) (f : dS) : dS := fun k ρ T => ∃ W : Nat → En → Tk → Prop, (∃ m, W m ρ T) ∧ ∀ m ρ T, W m ρ T → c ρ T fun b T1 => if b = true then
  f { nx := fun ρ' T' => ∃ m', m' < m ∧ W m' ρ' T', rt := k.rt, bk := k.nx, ct := fun ρ' T' => ∃ m', m' < m ∧ W m' ρ' T' } ρ T1 else k.nx ρ T1
theorem s_while {c : Expr} {tc : dT} {body : List Stmt} (hp : PassesOwn (model X.prog X.w) X.A X.env X.xe) (hc : PTd X c tc) (hb : PSsd X body f) : PSd X (.While c body [] pos) (sWhile tc f) := by
  refine ps_imp (ps_while hp hc hb) fun E σ H h => ?_
  obtain ⟨ρ, T, t, F0, H0, F, k, w, ⟨W, ⟨m0, w0⟩, turn⟩, fe⟩ := h
  refine ⟨fun m σ H => ∃ ρ T F', Ws X.K ρ T t σ F0 H0 F' H ∧ Same F F' ∧ W m ρ T, ⟨m0, ρ, T, F, w, Same.refl _, w0⟩, fun m σ H h => ?_⟩
  obtain ⟨ρ, T, F', w, sF, hW⟩ := h
  refine ⟨ρ, T, t, F', _, w.w, turn m ρ T hW, fun b H1 F1 T1 w1 g1 h1 => ?_⟩
  have s1 : Same F F1 := sF.trans g1.sub
  cases b with
  | false => exact fe.nx _ _ _ _ _ (w.grow g1 w1) s1 h1
  | true =>
    rw [if_pos rfl] at h1
    refine iteT ⟨fun σ' H' => ∃ m', m' < m ∧ ∃ ρ T F', Ws X.K ρ T t σ' F0 H0 F' H' ∧ Same F F' ∧ W m' ρ T, fun σ' H' h => h, ρ, T1, t, F0, H0, F1, _, w.grow g1 w1, h1, ?_⟩
    exact ⟨fun ρ' T' σ' F' H' w' s' ⟨m', lt, hw'⟩ => ⟨m', lt, ρ', T', F', w', s1.trans s', hw'⟩, fe.rt, fe.nx.to s1, fun ρ' T' σ' F' H' w' s' ⟨m', lt, hw'⟩ => ⟨m', lt, ρ', T', F', w', s1.trans s', hw'⟩⟩
/-- over some items -/
def forL (g : dG) (f : dS) (k : dEnds) : List D → En → Tk → Prop
  | [], ρ, T => k.nx ρ T
  | d :: r, ρ, T => g d ρ T fun ρ1 T1 => f { nx := forL g f k r, rt := k.rt, bk := k.nx, ct := forL g f k r } ρ1 T1
def D.items : D → Option (List D) | .tup xs => some xs | .lst xs => some xs | _ => none
/-- range(lo, lo + n) -/
def intsL (lo : Int) : Nat → List D
  | 0 => [] | n + 1 => .int lo :: intsL (lo + 1) n
theorem intsL_len : ∀ (n : Nat) (lo : Int), (intsL lo n).length = n
  | 0, _ => rfl
  | n + 1, lo => by simp [intsL, intsL_len n]
theorem intsL_get : ∀ (n : Nat) (lo : Int) (i : Nat), i < n → (intsL lo n)[i]? = some (.int (lo + i))
  | 0, _, _, h => absurd h (Nat.not_lt_zero _)
  | n + 1, lo, 0, _ => by simp [intsL]
  | n + 1, lo, i + 1, h => by
    show (intsL (lo + 1) n)[i]? = _
    rw [intsL_get n (lo + 1) i (by omega)]
    congr 2
    omega
end
end L2.G

namespace L2.G
open PySem PySem.Spec PyProof.Rows

/-! a def's promise where no text is being written (for repr) -/
structure GFn (P : Program) (w : World) (K : PySem.W.Frag) (mg : Str → Option Value) (base : Heap) (CX : CXT) (n : Nat) (f : Addr) (fd : FuncData) (ps : List Str) (sp : Sp) : Prop where
  len : ∀ vs H Q E, sp vs H Q E → vs.length = ps.length
  go : ∀ (A : Around) (fs : List Env) (s : Shared) (H : Hp) (args : Args) (us : List Value) (vs : List V) (Q : VK) (E : XK),
    Room n A ∧ A.guards = some [] → Env0 P w K mg base A fs s H → BindsTo s fd args (ps.zip us) → Vals vs us → sp vs H Q E → codeAny (model P w) A (.call (.ref f) args) (CR CX fs P w H s Q E) s

section
variable {P : Program} {w : World} {K : PySem.W.Frag} {mg : Str → Option Value} {base : Heap} {CX : CXT}
theorem GFn.mono {m n : Nat} {f : Addr} {fd : FuncData} {ps : List Str} {sp : Sp} (G : GFn P w K mg base CX m f fd ps sp) (h : m ≤ n) : GFn P w K mg base CX n f fd ps sp :=
  ⟨G.len, fun A fs s H args us vs Q E r => G.go A fs s H args us vs Q E ⟨r.1.mono h, r.2⟩⟩
theorem GFn.imp {n : Nat} {f : Addr} {fd : FuncData} {ps : List Str} {sp sp' : Sp} (G : GFn P w K mg base CX n f fd ps sp) (h : ∀ vs H Q E, sp' vs H Q E → sp vs H Q E) : GFn P w K mg base CX n f fd ps sp' :=
  ⟨fun vs H Q E q => G.len vs H Q E (h _ _ _ _ q), fun A fs s H args us vs Q E r e b v q => G.go A fs s H args us vs Q E r e b v (h _ _ _ _ q)⟩
/-- by the body -/
theorem gfn_body {n : Nat} {f : Addr} {name qual : Str} {params : Arguments} {body : List Stmt} {scope : Scope} {dV kV doc pm cdv ct oc : Value} {an od : Option Addr} {osl : Array (Option Value)} {N ps : List Str} {sp : Sp}
    (lk : K.lookup f = some ⟨oc, od, .func (PySem.W.fnOf name qual params body scope dV kV doc pm an cdv ct), osl⟩) (hcd : PySem.W.codeIn K cdv qual = true) (S : FnScope N ps scope) (len : ∀ vs H Q E, sp vs H Q E → vs.length = ps.length)
    (hb : ∀ (A : Around) (fs : List Env) (s : Shared) (H : Hp) (vs : List V) (Q : VK) (E : XK), Room n (A.deeper (envOfC qual scope s.heap.objs.size f cdv)) → A.guards = some [] → sp vs H Q E →
      ∃ t, PSs (cxOf CX P w K mg base N qual scope f cdv A fs s H E) body t ∧ t { nx := fun _ H' => Q .non H', rt := Q } (start N vs) H) :
    GFn P w K mg base CX (n + 1) f (PySem.W.fnOf name qual params body scope dV kV doc pm an cdv ct) ps sp := by
  constructor
  · exact len
  intro A fs s H args us vs Q E room e0 bd r hsp
  obtain ⟨hr, hgd⟩ := room
  have hl := len _ _ _ _ hsp
  have up : ∀ b o, base.get? b = some o → s.heap.get? b = some o := fun b o e => (e0.bs b o e).1
  have KX : K.In s.heap := e0.mod.kin.keeps up
  have hk : ∀ y ∈ ps.zip us, scope.names.lookup y.1 = some .local ∨ (scope.names.lookup y.1 = some .cell ∧ ((cellsFrom (s.heap.objs.size + 1) scope.names []).lookup y.1).isSome = true) := by
    rintro ⟨m, v⟩ hy
    cases S.par m (List.of_mem_zip hy).1 with
    | inl q => exact .inl q
    | inr q => exact .inr ⟨q, PySem.W.cellsFrom_some _ _ _ (.inl q)⟩
  apply codeAny_call_function hr.depth (KX _ _ lk) rfl S.co S.gen rfl (PySem.W.codeRec_of KX hcd)
  apply bd
  apply wpAny_newFunctionEnv_cells S.kind hk
  intro env he s1 x
  subst he
  constructor
  · exact (e0.mod.nolimit.keeps up).keeps x.toInCall.keep
  apply codeAny_func
  obtain ⟨t, ht, hq⟩ := hb A fs s H vs Q E (hr.deeper _) hgd hsp
  have I := inv_start (CX := CX) (E := E) (f := f) (cd := cdv) (qual := qual) S hr.hd e0 hl r x
  have last : ∀ {σ' : L2.St} {H' : Hp} {v : V} {u : Value} {s' : Shared}, Inv (cxOf CX P w K mg base N qual scope f cdv A fs s H E) [] σ' H' s' → RelV v u → Q v H' → CE fs P w H s Q u s' :=
    fun {_ H' v u _} J rv q => ⟨v, H', J.os, J.bare, J.base, J.hok, rv, q⟩
  apply wpAny_mono (ht.run [] s1 (start N vs) H _ I hq)
  · intro fl s' hs
    cases fl with
    | next => obtain ⟨_, _, J, q⟩ := hs; exact last (v := V.non) (u := Value.none) J rfl q
    | brk => obtain ⟨_, _, _, q⟩ := hs; exact q.elim
    | cont => obtain ⟨_, _, _, q⟩ := hs; exact q.elim
    | ret u => obtain ⟨v, _, _, J, rv, q⟩ := hs; exact last J rv q
  · exact fun e s' hs => hs
end

section
variable {X : Cx} {CX : CXT} {n : Nat} {f : Addr} {fd : FuncData} {ps ks : List Str} {sp : Sp} {E : XK} {x : Str} {p pos : Pos} {e : Expr} {es : List Expr} {kws : List Keyword} {t tk : TA} {g : List Value → List Value → List Value} {gV : List V → List V → List V}
/-- the call, however the arguments are bound -/
theorem g_run (G : GFn X.prog X.w X.K X.mg X.base CX n f fd ps sp) (hr : Room n X.A) (hgd : X.A.guards = some []) (hx : Passes CX X E) {pins : List (Addr × Obj)} {σ : L2.St} {H : Hp} {s : Shared} {Q : VK} {args : Args} {us : List Value} {vs : List V}
    (I : Inv X pins σ H s) (r : Vals vs us) (b : BindsTo s fd args (ps.zip us)) (h : sp vs H Q E) : wpAny (model X.prog X.w) X.A (call (.ref f) args.pos args.kw) (EP X pins σ Q) X.xe s := by
  apply wpAny_call
  apply codeAny_mono (G.go X.A X.stack s H args us vs Q E ⟨hr, hgd⟩ I.env0 b r h)
  intro r s' hq
  match r, hq with
  | .error e, hq => exact hx pins σ H s e s' I hq
  | .ok (.ret u), hq => exact I.after hq
theorem g_call (G : GFn X.prog X.w X.K X.mg X.base CX n f fd ps sp) (hr : Room n X.A) (hgd : X.A.guards = some []) (hg : Gl X x) (hm : X.mg x = some (.ref f)) (hk : PySem.W.keepIn X.K (.ref f) = true) (hb : Binds X.K fd ps []) (hx : Passes CX X E)
    (ha : PA X (e :: es) t) (hd : (x == ("__debug__" : Str)) = false := by decide) (he : starEach (e :: es) X.env = (false, eval e X.env) :: starEach es X.env := by rfl) (hp : (backTo pos (starEach es X.env)).any (·.1) = false := by rfl) :
    PE X (.Call (.Name x p) (e :: es) [] pos) (tCall sp [] E t) := by
  constructor
  intro pins s σ H Q I h
  apply wpAny_Call_Name_kw
  apply ld_glob I hg hm _ hd
  apply PySem.W.callWith_K (h₀ := X.base) I.ok.mod.kin hk _ he hp
  apply thn (ha.run pos pins s σ H _ I h)
  rintro us s1 ⟨vs, H1, I1, r, q⟩
  refine ⟨I1.kIn, ?_⟩
  have q : sp (vs ++ []) H1 Q E := q
  rw [List.append_nil] at q
  have hl : us.length = ps.length := by rw [← r.length]; exact G.len _ _ _ _ q
  have b := hb s1 us I1.kIn (by rw [List.append_nil]; exact hl)
  rw [List.append_nil] at b
  exact g_run G hr hgd hx (args := ⟨us, []⟩) I1 r b q
end

/-! defs over data -/
abbrev Sem := List SV → Tk → KD → Prop
def spD (K : PySem.W.Frag) (n : Nat) (sem : Sem) : Sp := fun vs H Q _ => vs.length = n ∧ ∃ F t T as k, ArgL K t F as vs ∧ Wt K T t F H ∧ sem as T k ∧ Fin K t F H k Q
/-- the def x stands in the module and does sem -/
def Ok (P : Program) (w : World) (K : PySem.W.Frag) (mg : Str → Option Value) (base : Heap) (n : Nat) (x : Str) (ps : List Str) (sem : Sem) : Prop :=
  ∃ f fd, mg x = some (.ref f) ∧ PySem.W.keepIn K (.ref f) = true ∧ Binds K fd ps [] ∧ (∀ (s : Shared) (ws : List Value), K.In s.heap → ws.length = ps.length → BindsTo s fd ⟨[], ps.zip ws⟩ (ps.zip ws)) ∧ GFn P w K mg base CX0 n f fd ps (spD K ps.length sem) ∧ ∃ oc od osl, K.lookup f = some ⟨oc, od, .func fd, osl⟩
def Df (K : PySem.W.Frag) (mg : Str → Option Value) (x : Str) (st : Stmt) : Prop := ∃ f fd, Fun K x x st f fd ∧ mg x = some (.ref f)
theorem Ok.mono {P : Program} {w : World} {K : PySem.W.Frag} {mg : Str → Option Value} {base : Heap} {m n : Nat} {x : Str} {ps : List Str} {sem : Sem} (h : Ok P w K mg base m x ps sem) (l : m ≤ n) : Ok P w K mg base n x ps sem :=
  let ⟨f, fd, h1, h2, h3, h4, h5, h6⟩ := h; ⟨f, fd, h1, h2, h3, h4, h5.mono l, h6⟩
/-- a weaker reading -/
theorem Ok.imp {P : Program} {w : World} {K : PySem.W.Frag} {mg : Str → Option Value} {base : Heap} {n : Nat} {x : Str} {ps : List Str} {sem sem' : Sem} (h : Ok P w K mg base n x ps sem) (i : ∀ as T k, sem' as T k → sem as T k) : Ok P w K mg base n x ps sem' :=
  let ⟨f, fd, h1, h2, h3, h4, h5, h6⟩ := h; ⟨f, fd, h1, h2, h3, h4, h5.imp (fun vs H Q E ⟨q1, F, t, T, as, k, a, b, c, d⟩ => ⟨q1, F, t, T, as, k, a, b, i _ _ _ c, d⟩), h6⟩
abbrev CxD (P : Program) (w : World) (K : PySem.W.Frag) (mg : Str → Option Value) (base : Heap) (N : List Str) (x : Str) (st : Stmt) (f : Addr) (cdv : Value) (A : Around) (fs : List Env) (s : Shared) (H : Hp) (E : XK) : Cx :=
  (cxOf CX0 P w K mg base N x (defScope st) f cdv A fs s H E).nox
/-- what a body does, from the arguments -/
def start' (N : List Str) (as : List SV) : En := as.map some ++ List.replicate (N.length - as.length) none
def semOf (N : List Str) (b : dS) : Sem := fun as T k => b { nx := fun _ T => k .non T, rt := k, bk := fun _ _ => False, ct := fun _ _ => False } (start' N as) T
theorem argGet {K : PySem.W.Frag} {t : Option Addr} {F H : Hp} : ∀ {as : List SV} {vs : List V} (r : ArgL K t F as vs) (i : Nat) s, as[i]? = some s → (∃ v, vs[i]? = some v ∧ SlotR K t F H s v) ∧ ∀ xs, s ≠ .own xs
  | _, _, .nil, _, _, e => by simp at e
  | _, _, .val r q, 0, s, e => by simp at e; subst e; exact ⟨⟨_, rfl, r⟩, fun _ z => nomatch z⟩
  | _, _, .tank r q, 0, s, e => by simp at e; subst e; exact ⟨⟨_, rfl, _, r, rfl⟩, fun _ z => nomatch z⟩
  | _, _, .val r q, i + 1, s, e => argGet q i s (by simpa using e)
  | _, _, .tank r q, i + 1, s, e => argGet q i s (by simpa using e)
theorem startGet {N : List Str} {as : List SV} {i : Nat} {s : SV} (h : (start' N as)[i]? = some (some s)) : as[i]? = some s := by
  unfold start' at h
  by_cases hi : i < as.length
  · rw [List.getElem?_append_left (by simpa using hi), List.getElem?_map] at h
    cases e : as[i]? with
    | none => rw [e] at h; cases h
    | some a => rw [e] at h; cases h; rfl
  · rw [List.getElem?_append_right (by simpa using hi), List.getElem?_replicate] at h
    split at h <;> cases h
theorem wd_start {K : PySem.W.Frag} {N : List Str} {t : Option Addr} {F H : Hp} {T : Tk} {as : List SV} {vs : List V} (r : ArgL K t F as vs) (w : Wt K T t F H) : Wd K (start' N as) T t (start N vs) F H := by
  refine ⟨w, by simp [start', start, r.len], fun i s e => ?_, fun i j xs ys l e1 _ _ _ => ?_⟩
  · have e' := startGet e
    obtain ⟨⟨v, h1, h2⟩, _⟩ := argGet (H := H) r i s e'
    refine ⟨v, ?_, h2⟩
    have hi := (List.getElem?_eq_some_iff.mp h1).1
    unfold start
    rw [List.getElem?_append_left (by simpa using hi), List.getElem?_map, h1]
    rfl
  · exact absurd rfl ((argGet (H := H) r i _ (startGet e1)).2 xs)
/-- where the def x stands, and its code object -/
def CdAt (K : PySem.W.Frag) (mg : Str → Option Value) (x : Str) (f : Addr) (cdv : Value) : Prop := mg x = some (.ref f) ∧ ∃ oc od fd osl, K.lookup f = some ⟨oc, od, .func fd, osl⟩ ∧ fd.code = cdv ∧ PySem.W.kdsCode K cdv = true
theorem ok_def {P : Program} {w : World} {K : PySem.W.Frag} {mg : Str → Option Value} {base : Heap} {n : Nat} {x : Str} {st : Stmt} {N ps : List Str} {b : dS} (h : Df K mg x st) (S : FnScope N ps (defScope st))
    (hb1 : ∀ (kV doc pm : Value) (an : Option Addr) (cdv ct : Value) (us : List Value), us.length = ps.length → bindArgs (PySem.W.fnOf x x (defArgs st) (defBody st) (defScope st) .none kV doc pm an cdv ct) ⟨us, []⟩ = pure (ps.zip us))
    (hb2 : ∀ (kV doc pm : Value) (an : Option Addr) (cdv ct : Value) (us : List Value), us.length = ps.length → bindArgs (PySem.W.fnOf x x (defArgs st) (defBody st) (defScope st) .none kV doc pm an cdv ct) ⟨[], ps.zip us⟩ = pure (ps.zip us))
    (body : ∀ (f : Addr) (cdv : Value) (A : Around) (fs : List Env) (s : Shared) (H : Hp) (E : XK), CdAt K mg x f cdv → Room n (A.deeper (envOfC x (defScope st) s.heap.objs.size f cdv)) → A.guards = some [] → PSsd (CxD P w K mg base N x st f cdv A fs s H E) (defBody st) b) :
    Ok P w K mg base (n + 1) x ps (semOf N b) := by
  obtain ⟨f, fd, Fn, hm⟩ := h
  refine ⟨f, fd, hm, Fn.kp, Fn.binds hb1, ?_, ?_, by obtain ⟨oc, od, kV, doc, pm, an, cdv, ct, osl, _, lk, _⟩ := Fn.ex; exact ⟨oc, od, osl, lk⟩⟩
  · obtain ⟨oc, od, kV, doc, pm, an, cdv, ct, osl, rfl, lk, hcd⟩ := Fn.ex
    exact fun s ws _ hl => .of_eq (hb2 kV doc pm an cdv ct ws hl)
  · obtain ⟨oc, od, kV, doc, pm, an, cdv, ct, osl, rfl, lk, hcd⟩ := Fn.ex
    refine gfn_body lk hcd S (fun vs H Q E q => q.1) fun A fs s H vs Q E hr hgd hsp => ?_
    obtain ⟨hl, F, t, T, as, k, ar, wt, h, fin⟩ := hsp
    refine ⟨_, (body f cdv A fs s H E ⟨hm, _, _, _, _, lk, rfl, kdsCode_of hcd⟩ hr hgd).nox, start' N as, T, t, F, H, F, _, ⟨wd_start ar wt, Grow.refl _ _ _, fun i xs l e1 _ => ?_⟩, h, ?_⟩
    · exact absurd rfl ((argGet (H := H) ar i _ (startGet e1)).2 xs)
    · exact ⟨fun ρ T' σ' F' H' w' _ q => fin .non H' F' .non T' w'.w.wt w'.g .non q, fun v H' F' d T' w' g' r' q => fin v H' F' d T' w' g' r' q, fun _ _ _ _ _ _ _ q => q.elim, fun _ _ _ _ _ _ _ q => q.elim⟩

section
variable {X : Cx} {n : Nat} {x : Str} {ps : List Str} {sem : Sem} {p pos : Pos} {e : Expr} {es : List Expr} {kws : List Keyword} {fr : dA}
def dCall (n : Nat) (sem : Sem) (fr : dA) : dE := fun ρ T k => fr ρ T fun as T1 => as.length = n ∧ sem as T1 k
theorem call_ok {K : PySem.W.Frag} {E : XK} {σ : L2.St} {H : Hp} {Q : VK} (h : tD K (dCall n sem fr) σ H Q) : tCall (spD K n sem) [] E (tDA K fr) σ H Q := by
  obtain ⟨ρ, T, t, F, k, w, h, f⟩ := h
  refine ⟨ρ, T, t, F, _, w, h, fun vs H1 F1 as T1 w1 g1 r1 h1 => ?_⟩
  show spD K n sem (vs ++ []) H1 Q E
  rw [List.append_nil]
  exact ⟨by rw [← r1.len]; exact h1.1, F1, t, T1, as, k, r1, w1, h1.2, f.then g1⟩
theorem d_call (G : Ok X.prog X.w X.K X.mg X.base n x ps sem) (hr : Room n X.A) (hgd : X.A.guards = some []) (ha : PAd X (e :: es) fr) (hg : Gl X x := by rfl)
    (hd : (x == ("__debug__" : Str)) = false := by decide) (he : starEach (e :: es) X.env = (false, eval e X.env) :: starEach es X.env := by rfl) (hp : (backTo pos (starEach es X.env)).any (·.1) = false := by rfl) : PEd X (.Call (.Name x p) (e :: es) [] pos) (dCall ps.length sem fr) := by
  obtain ⟨f, fd, h1, h2, h3, _, h5, _⟩ := G
  exact pe_imp (g_call (E := E0) h5 hr hgd hg h1 h2 h3 pass0 ha hd he hp) fun _ _ _ h => call_ok h
end
end L2.G

namespace L2.G
open PySem PySem.Spec PyProof.Rows

/-! built-in functions -/
section
variable {X : Cx} {x : Str} {p pos : Pos} {e : Expr} {es : List Expr} {fr : dA} {id T : String} {r : List V → Hp → VK → Prop}
def dBlt (o : List D → (D → Prop) → Prop) (fr : dA) : dE := fun ρ T k => fr ρ T fun as T1 => match vals? as with | some ds => o ds fun d => k d T1 | none => False
def BltS (K : PySem.W.Frag) (r : List V → Hp → VK → Prop) (o : List D → (D → Prop) → Prop) : Prop := ∀ {t : Option Addr} {F H : Hp} {T : Tk} {ds : List D} {vs : List V} {k : KD} {Q : VK}, Wt K T t F H → RepL K F ds vs → o ds (fun d => k d T) → Fin K t F H k Q → r vs H Q
theorem blt_ok {K : PySem.W.Frag} {o : List D → (D → Prop) → Prop} (s : BltS K r o) {σ : L2.St} {H : Hp} {Q : VK} (h : tD K (dBlt o fr) σ H Q) : tCB r (tDA K fr) σ H Q := by
  obtain ⟨ρ, T, t, F, k, w, h, f⟩ := h
  refine ⟨ρ, T, t, F, _, w, h, fun vs H1 F1 as T1 w1 g1 r1 h1 => ?_⟩
  split at h1
  · rename_i ds e
    exact s w1 (r1.vals e) h1 (f.then g1)
  · exact h1.elim
theorem d_blt {o : List D → (D → Prop) → Prop} (hc : CallR X (.builtin id) r) (s : BltS X.K r o) (hm : X.mg x = none) (ha : PAd X (e :: es) fr) (hv : bootBuiltins x = some (.builtin id) := by decide +kernel) (hg : Gl X x := by rfl) (hn : x ≠ "__name__" := by decide) (hd : (x == ("__debug__" : Str)) = false := by decide)
    (he : starEach (e :: es) X.env = (false, eval e X.env) :: starEach es X.env := by rfl) (hp : (backTo pos (starEach es X.env)).any (·.1) = false := by rfl) : PEd X (.Call (.Name x p) (e :: es) [] pos) (dBlt o fr) :=
  pe_imp (pe_callB hc hg hm hv ha hn hd he hp) fun _ _ _ h => blt_ok s h
theorem d_blty {o : List D → (D → Prop) → Prop} (hc : CallR X (.type T) r) (s : BltS X.K r o) (hm : X.mg x = none) (ha : PAd X (e :: es) fr) (hv : bootBuiltins x = some (.type T) := by decide +kernel) (hg : Gl X x := by rfl) (hn : x ≠ "__name__" := by decide) (hd : (x == ("__debug__" : Str)) = false := by decide)
    (he : starEach (e :: es) X.env = (false, eval e X.env) :: starEach es X.env := by rfl) (hp : (backTo pos (starEach es X.env)).any (·.1) = false := by rfl) : PEd X (.Call (.Name x p) (e :: es) [] pos) (dBlt o fr) :=
  pe_imp (pe_callTy hc hg hm hv ha hn hd he hp) fun _ _ _ h => blt_ok s h
/-- a name of the module for a built-in function (gcd of math) -/
theorem d_bfun {o : List D → (D → Prop) → Prop} (hc : CallR X (.builtin id) r) (s : BltS X.K r o) (hm : X.mg x = some (.builtin id)) (ha : PAd X (e :: es) fr) (hg : Gl X x := by rfl) (hd : (x == ("__debug__" : Str)) = false := by decide)
    (he : starEach (e :: es) X.env = (false, eval e X.env) :: starEach es X.env := by rfl) (hp : (backTo pos (starEach es X.env)).any (·.1) = false := by rfl) : PEd X (.Call (.Name x p) (e :: es) [] pos) (dBlt o fr) :=
  pe_imp (pe_callBfun hc hg hm ha hd he hp) fun _ _ _ h => blt_ok s h

/-! len -/
def oLen (ds : List D) (k : D → Prop) : Prop := match ds with | [.tup xs] => k (.int xs.length) | [.lst xs] => k (.int xs.length) | [.scr xs] => k (.int xs.length) | _ => False
theorem oLen_ok {K : PySem.W.Frag} : BltS K (fun xs H Q => ∃ p ys, xs = [.ref p] ∧ (SqL K H p ys ∨ SqT K H p ys) ∧ Q (.int ys.length) H) oLen := by
  intro t F H T ds vs k Q wt r q f
  unfold oLen at q
  split at q
  · cases r with
    | cons r rr =>
      cases rr
      obtain ⟨a, ws, rfl, h, r⟩ := rep_tup r
      rw [r.len] at q
      exact ⟨a, ws, rfl, .inr (same_t wt.sub h), f.val wt (.int _) q⟩
  · cases r with
    | cons r rr =>
      cases rr
      obtain ⟨a, ws, rfl, h, r⟩ := rep_lst r
      rw [r.len] at q
      exact ⟨a, ws, rfl, .inl (.of (wt.sub _ _ h)), f.val wt (.int _) q⟩
  · cases r with
    | cons r rr =>
      cases rr
      obtain ⟨a, ws, rfl, h, r⟩ := rep_scr r
      rw [r.len] at q
      exact ⟨a, ws, rfl, .inl (wt.sub.seq h), f.val wt (.int _) q⟩
  · exact q.elim
/-! functions of ints -/
def o1 (g : Int → Int) (ds : List D) (k : D → Prop) : Prop := match ds with | [.int i] => k (.int (g i)) | _ => False
def o2 (g : Int → Int → Int) (ds : List D) (k : D → Prop) : Prop := match ds with | [.int i, .int j] => k (.int (g i j)) | _ => False
theorem o1_ok {K : PySem.W.Frag} {g : Int → Int} : BltS K (fun xs H Q => ∃ i, xs = [.int i] ∧ Q (.int (g i)) H) (o1 g) := by
  intro t F H T ds vs k Q wt r q f
  unfold o1 at q
  split at q
  · cases r with
    | cons r rr => cases rr; cases r; exact ⟨_, rfl, f.val wt (.int _) q⟩
  · exact q.elim
theorem o2_ok {K : PySem.W.Frag} {g : Int → Int → Int} : BltS K (fun xs H Q => ∃ i j, xs = [.int i, .int j] ∧ Q (.int (g i j)) H) (o2 g) := by
  intro t F H T ds vs k Q wt r q f
  unfold o2 at q
  split at q
  · cases r with
    | cons r rr => cases rr with | cons r2 rr => cases rr; cases r; cases r2; exact ⟨_, _, rfl, f.val wt (.int _) q⟩
  · exact q.elim
/-- int(e) of an int, of a truth value -/
def oIntB (ds : List D) (k : D → Prop) : Prop := match ds with | [.int i] => k (.int i) | [.bl b] => k (.int (if b then 1 else 0)) | _ => False
theorem oIntB_ok {K : PySem.W.Frag} : BltS K (fun xs H Q => (∃ i, xs = [.int i] ∧ Q (.int i) H) ∨ ∃ k, xs = [.bl k] ∧ Q (.int (if k then 1 else 0)) H) oIntB := by
  intro t F H T ds vs k Q wt r q f
  unfold oIntB at q
  split at q
  · cases r with
    | cons r rr => cases rr; cases r; exact .inl ⟨_, rfl, f.val wt (.int _) q⟩
  · cases r with
    | cons r rr => cases rr; cases r; exact .inr ⟨_, rfl, f.val wt (.int _) q⟩
  · exact q.elim
/-! isqrt -/
theorem cr_isqrt : CallR X (.builtin "math.isqrt") (fun xs H Q => ∃ i : Int, xs = [.int i] ∧ (0 ≤ i ∧ i.natAbs < 2 ^ 13000) ∧ Q (.int ((Float64.isqrt i.toNat : Nat) : Int)) H) := by
  intro pins s σ H vs us Q I r h
  obtain ⟨i, rfl, ⟨h0, h1⟩, q⟩ := h
  obtain ⟨u, rfl, t, rfl⟩ := vals1 r
  have hl : i.toNat.log2 < 13000 := by
    have : i.toNat = i.natAbs := by omega
    rw [this]
    exact PySem.Flt.log2_lt_of (by decide) h1
  have h2 := PySem.W.mg_run_isqrt i t (by omega) (by omega) (by omega)
  exact call_function_meets PySem.W.MGF.kind_isqrt PySem.W.MGF.plain_isqrt PySem.W.MGF.entry_isqrt (PySem.W.MGF.args_isqrt _) h2.meets ⟨.int _, H, I.tok _, ⟨_, rfl⟩, q⟩
def oSqrt (ds : List D) (k : D → Prop) : Prop := match ds with | [.int i] => (0 ≤ i ∧ i.natAbs < 2 ^ 13000) ∧ k (.int ((Float64.isqrt i.toNat : Nat) : Int)) | _ => False
theorem oSqrt_ok {K : PySem.W.Frag} : BltS K (fun xs H Q => ∃ i : Int, xs = [.int i] ∧ (0 ≤ i ∧ i.natAbs < 2 ^ 13000) ∧ Q (.int ((Float64.isqrt i.toNat : Nat) : Int)) H) oSqrt := by
  intro t F H T ds vs k Q wt r q f
  unfold oSqrt at q
  split at q
  · cases r with
    | cons r rr => cases rr; cases r; exact ⟨_, rfl, q.1, f.val wt (.int _) q.2⟩
  · exact q.elim
/-! divmod -/
def DmOk (i j : Int) : Prop := 0 < j ∧ j.natAbs < 2 ^ 9000
def oDivmod (ds : List D) (k : D → Prop) : Prop := match ds with | [.int i, .int j] => DmOk i j ∧ k (.tup [.int (i / j), .int (i % j)]) | _ => False
theorem call_divmodQ : CallR X (.builtin "divmod") (fun xs H Q => ∃ i j, xs = [.int i, .int j] ∧ DmOk i j ∧ ∀ p, H p = none → Q (.ref p) (upd H p (.tup [.int (i / j), .int (i % j)]))) :=
  fun pins s σ H xs us Q I r ⟨i, j, e, c, q⟩ => call_divmodW pins s σ H xs us Q I r ⟨i, j, e, ⟨c.1, PyProof.noPylong_of_log2 (PySem.Flt.log2_lt_of (by decide) c.2)⟩, q⟩
theorem oDivmod_ok {K : PySem.W.Frag} : BltS K (fun xs H Q => ∃ i j, xs = [.int i, .int j] ∧ DmOk i j ∧ ∀ p, H p = none → Q (.ref p) (upd H p (.tup [.int (i / j), .int (i % j)]))) oDivmod := by
  intro t F H T ds vs k Q wt r q f
  unfold oDivmod at q
  split at q
  · cases r with
    | cons r rr => cases rr with | cons r2 rr => cases rr; cases r; cases r2; exact ⟨_, _, rfl, q.1, fun p hp => f.tup wt (.cons (.int _) (.cons (.int _) .nil)) hp q.2⟩
  · exact q.elim
/-! all, any, sum of a list -/
def bls? : List D → Option (List Bool)
  | [] => some [] | .bl b :: r => (bls? r).map (b :: ·) | _ :: _ => none
def nums? : List D → Option (List Int)
  | [] => some [] | .int b :: r => (nums? r).map (b :: ·) | _ :: _ => none
theorem bls_some : ∀ {ds : List D} {bs : List Bool}, bls? ds = some bs → ds = bs.map D.bl
  | [], bs, e => by cases e; rfl
  | d :: ds, bs, e => by
    have ih := fun cs => bls_some (ds := ds) (bs := cs)
    cases d with
    | bl b =>
      simp only [bls?, Option.map_eq_some_iff] at e
      obtain ⟨cs, h1, rfl⟩ := e
      rw [ih cs h1]
      rfl
    | _ => exact absurd e (by simp [bls?])
theorem bls_inv {K : PySem.W.Frag} {F : Hp} : ∀ {bs : List Bool} {vs : List V}, RepL K F (bs.map D.bl) vs → vs = bs.map V.bl
  | [], _, r => by cases r; rfl
  | b :: bs, _, r => by
    cases r with
    | cons r q => rw [rep_bl r, bls_inv q]; rfl
theorem bls_rep {K : PySem.W.Frag} {F : Hp} {ds : List D} {vs : List V} {bs : List Bool} (r : RepL K F ds vs) (e : bls? ds = some bs) : vs = bs.map V.bl := by
  rw [bls_some e] at r
  exact bls_inv r
theorem nums_some : ∀ {ds : List D} {bs : List Int}, nums? ds = some bs → ds = bs.map D.int
  | [], bs, e => by cases e; rfl
  | d :: ds, bs, e => by
    have ih := fun cs => nums_some (ds := ds) (bs := cs)
    cases d with
    | int b =>
      simp only [nums?, Option.map_eq_some_iff] at e
      obtain ⟨cs, h1, rfl⟩ := e
      rw [ih cs h1]
      rfl
    | _ => exact absurd e (by simp [nums?])
theorem nums_inv {K : PySem.W.Frag} {F : Hp} : ∀ {bs : List Int} {vs : List V}, RepL K F (bs.map D.int) vs → vs = bs.map V.int
  | [], _, r => by cases r; rfl
  | b :: bs, _, r => by
    cases r with
    | cons r q => rw [rep_int r, nums_inv q]; rfl
theorem nums_rep {K : PySem.W.Frag} {F : Hp} {ds : List D} {vs : List V} {bs : List Int} (r : RepL K F ds vs) (e : nums? ds = some bs) : vs = bs.map V.int := by
  rw [nums_some e] at r
  exact nums_inv r
def oAll (ds : List D) (k : D → Prop) : Prop := match ds with | [.lst xs] => (match bls? xs with | some bs => k (.bl (bs.all _root_.id)) | none => False) | _ => False
theorem oAll_ok {K : PySem.W.Frag} : BltS K (rAll K) oAll := by
  intro t F H T ds vs k Q wt r q f
  unfold oAll at q
  split at q
  · split at q
    · rename_i e
      cases r with
      | cons r rr =>
        cases rr
        obtain ⟨a, ws, rfl, h, r⟩ := rep_lst r
        have e2 := bls_rep r e
        subst e2
        exact ⟨a, _, rfl, .of (wt.sub _ _ h), f.val wt (.bl _) q⟩
    · exact q.elim
  · exact q.elim
/-! tuple(xs), list(xs) -/
def oTuple (ds : List D) (k : D → Prop) : Prop := match ds with | [.lst xs] => k (.tup xs) | [.tup xs] => k (.tup xs) | _ => False
def oList (ds : List D) (k : D → Prop) : Prop := match ds with | [.lst xs] => k (.lst xs) | [.tup xs] => k (.lst xs) | [.scr xs] => k (.lst xs) | _ => False
theorem oTuple_ok {K : PySem.W.Frag} : BltS K (fun xs H Q => ∃ p ys, xs = [.ref p] ∧ ((SqL K H p ys ∧ ∀ l, H l = none → Q (.ref l) (upd H l (.tup ys))) ∨ (SqT K H p ys ∧ Q (.ref p) H))) oTuple := by
  intro t F H T ds vs k Q wt r q f
  unfold oTuple at q
  split at q
  · cases r with
    | cons r rr =>
      cases rr
      obtain ⟨a, ws, rfl, h, r⟩ := rep_lst r
      exact ⟨a, ws, rfl, .inl ⟨.of (wt.sub _ _ h), fun l hl => f.tup wt r hl q⟩⟩
  · cases r with
    | cons r rr =>
      cases rr
      have r0 := r
      obtain ⟨a, ws, rfl, h, r⟩ := rep_tup r
      exact ⟨a, ws, rfl, .inr ⟨same_t wt.sub h, f.val wt r0 q⟩⟩
  · exact q.elim
theorem oList_ok {K : PySem.W.Frag} : BltS K (fun xs H Q => ∃ p ys, xs = [.ref p] ∧ (SqL K H p ys ∨ SqT K H p ys) ∧ ∀ l, H l = none → Q (.ref l) (upd H l (.lst ys))) oList := by
  intro t F H T ds vs k Q wt r q f
  unfold oList at q
  split at q
  · cases r with
    | cons r rr =>
      cases rr
      obtain ⟨a, ws, rfl, h, r⟩ := rep_lst r
      exact ⟨a, ws, rfl, .inl (.of (wt.sub _ _ h)), fun l hl => f.lst wt r hl q⟩
  · cases r with
    | cons r rr =>
      cases rr
      obtain ⟨a, ws, rfl, h, r⟩ := rep_tup r
      exact ⟨a, ws, rfl, .inr (same_t wt.sub h), fun l hl => f.lst wt r hl q⟩
  · cases r with
    | cons r rr =>
      cases rr
      obtain ⟨a, ws, rfl, h, r⟩ := rep_scr r
      exact ⟨a, ws, rfl, .inl (wt.sub.seq h), fun l hl => f.lst wt r hl q⟩
  · exact q.elim
/-! repr -/
def D.shOk (d : D) : Prop := d.eqOk ∧ d.py.showable = true ∧ d.py.shown.length ≤ sizeLine
def oRepr (ds : List D) (k : D → Prop) : Prop := match ds with | [.tup xs] => D.shOk (.tup xs) ∧ k (.str (D.py (.tup xs)).shown) | [.lst xs] => D.shOk (.lst xs) ∧ k (.str (D.py (.lst xs)).shown) | [.int i] => i.natAbs.log2 < 1920 ∧ k (.str (toString i)) | [.bl b] => k (.str (if b then "True" else "False")) | [.non] => k (.str "None") | _ => False
theorem call_reprD (hgd : X.A.guards = some []) (hu : X.A.units + 66 < cLine) : CallR X (.builtin "repr") (fun xs H Q => (∃ a d, xs = [.ref a] ∧ Dp X.K H (.ref a) d ∧ SeqAt.shaped d = true ∧ d.showable = true ∧ d.shown.length ≤ sizeLine ∧ Q (.str d.shown) H) ∨ ((∃ i, xs = [.int i] ∧ i.natAbs.log2 < 1920 ∧ Q (.str (toString i)) H) ∨ (∃ b : Bool, xs = [.bl b] ∧ Q (.str (if b then "True" else "False")) H) ∨ (xs = [.non] ∧ Q (.str "None") H))) := by
  intro pins s σ H xs us Q I r h
  rcases h with h | h
  · obtain ⟨a, d, rfl, hd, hs, hw, hl, q⟩ := h
    obtain ⟨u, rfl, ru⟩ := vals1 r
    obtain ⟨as, rd⟩ := Dp.reads I d _ u hd ru
    have e : u = Value.ref a := ru
    subst e
    have dl := SeqAt.depth_of_shaped hs
    refine repr_of_reads' rd hw (PyData.noDict_hsm (PyData.hasDict_of_canLay d (SeqAt.canLay_of_shaped hs))) hgd (by omega) (fun _ _ e => e) (fun h' u tk hk => ?_) hl
    exact ⟨.str _, H, I.kept (h' := h') (t' := tk) hk, ⟨_, rfl⟩, q⟩
  · rcases h with h | ⟨b, rfl, q⟩ | ⟨rfl, q⟩
    · exact SkE.call_repr_int pins s σ H xs us Q I r h
    · obtain ⟨u, rfl, ru⟩ := vals1 r
      cases ru
      exact PySem.P.repr_of_bool ⟨.str _, H, I.tok _, ⟨_, rfl⟩, q⟩
    · obtain ⟨u, rfl, ru⟩ := vals1 r
      cases ru
      exact PySem.P.repr_of_none ⟨.str _, H, I.tok _, ⟨_, rfl⟩, q⟩
theorem oRepr_ok {K : PySem.W.Frag} : BltS K (fun xs H Q => (∃ a d, xs = [.ref a] ∧ Dp K H (.ref a) d ∧ SeqAt.shaped d = true ∧ d.showable = true ∧ d.shown.length ≤ sizeLine ∧ Q (.str d.shown) H) ∨ ((∃ i, xs = [.int i] ∧ i.natAbs.log2 < 1920 ∧ Q (.str (toString i)) H) ∨ (∃ b : Bool, xs = [.bl b] ∧ Q (.str (if b then "True" else "False")) H) ∨ (xs = [.non] ∧ Q (.str "None") H))) oRepr := by
  intro t F H T ds vs k Q wt r q f
  unfold oRepr at q
  split at q
  · cases r with
    | cons r rr =>
      cases rr
      have r0 := r
      obtain ⟨a, ws, rfl, h, r⟩ := rep_tup r
      exact .inl ⟨a, _, rfl, r0.dp wt.sub q.1.1.1, q.1.1.2, q.1.2.1, q.1.2.2, f.val wt (.str _) q.2⟩
  · cases r with
    | cons r rr =>
      cases rr
      have r0 := r
      obtain ⟨a, ws, rfl, h, r⟩ := rep_lst r
      exact .inl ⟨a, _, rfl, r0.dp wt.sub q.1.1.1, q.1.1.2, q.1.2.1, q.1.2.2, f.val wt (.str _) q.2⟩
  · cases r with
    | cons r rr => cases rr; cases r; exact .inr (.inl ⟨_, rfl, q.1, f.val wt (.str _) q.2⟩)
  · cases r with
    | cons r rr => cases rr; cases r; exact .inr (.inr (.inl ⟨_, rfl, f.val wt (.str _) q⟩))
  · cases r with
    | cons r rr => cases rr; cases r; exact .inr (.inr (.inr ⟨rfl, f.val wt (.str _) q⟩))
  · exact q.elim
end
end L2.G

namespace L2.G
open PySem PySem.Spec PyProof.Rows

section
variable {X : Cx} {a b e : Expr} {fa fb fe : dE} {pos : Pos}
/-! slices -/
abbrev dP := En → Tk → (Option Int → Tk → Prop) → Prop
def tDO (K : PySem.W.Frag) (f : dP) : TO := fun σ H Q => ∃ ρ T t F k, Wd K ρ T t σ F H ∧ f ρ T k ∧ ∀ o H' F' T', Wt K T' t F' H' → Grow t F H F' H' → k o T' → Q o H'
abbrev POd (X : Cx) (e : Option Expr) (f : dP) : Prop := PO X e (tDO X.K f)
theorem po_imp {e : Option Expr} {t u : TO} (h : PO X e t) (i : ∀ σ H Q, u σ H Q → t σ H Q) : PO X e u := ⟨fun pins s σ H Q I q => h.run pins s σ H Q I (i _ _ _ q)⟩
theorem p_none : POd X none (fun _ T k => k none T) := by
  refine po_imp po_none fun σ H Q h => ?_
  obtain ⟨ρ, T, t, F, k, w, h, f⟩ := h
  exact f _ _ _ _ w.wt (Grow.refl _ _ _) h
def pSome (fe : dE) : dP := fun ρ T k => fe ρ T fun d T1 => match d with | .int i => k (some i) T1 | _ => False
theorem p_some (he : PEd X e fe) : POd X (some e) (pSome fe) := by
  refine po_imp (po_some he) fun σ H Q h => ?_
  obtain ⟨ρ, T, t, F, k, w, h, f⟩ := h
  refine ⟨ρ, T, t, F, _, w, h, fun v H1 F1 x T1 w1 g1 r1 h1 => ?_⟩
  split at h1
  · cases r1; exact ⟨_, rfl, f _ _ _ _ w1 g1 h1⟩
  · exact h1.elim
def cutD (xs : List D) (lo hi : Option Int) : List D := (xs.drop (HT.sIx xs.length 0 lo)).take (HT.sIx xs.length xs.length hi - HT.sIx xs.length 0 lo)
theorem cut_rep {K : PySem.W.Frag} {F : Hp} {ds : List D} {vs : List V} (r : RepL K F ds vs) (lo hi : Option Int) : RepL K F (cutD ds lo hi) (cutV vs lo hi) := by
  unfold cutD cutV
  rw [r.len]
  exact (r.drop _).take _
def dSl (fe : dE) (lo hi : dP) : dE := fun ρ T k => fe ρ T fun x T1 => lo ρ T1 fun l T2 => hi ρ T2 fun h T3 => match x with | .lst xs => k (.lst (cutD xs l h)) T3 | .scr xs => k (.lst (cutD xs l h)) T3 | .tup xs => k (.tup (cutD xs l h)) T3 | _ => False
theorem d_slice {lo hi : Option Expr} {fl fh : dP} {p2 : Pos} (he : PEd X e fe) (hl : POd X lo fl) (hh : POd X hi fh) : PEd X (.Subscript e (.Slice lo hi none p2) pos) (dSl fe fl fh) := by
  refine pe_imp (pe_slice (sl_list.or sl_tupA) he hl hh) fun σ H Q h => ?_
  obtain ⟨ρ, T, t, F, k, w, h, f⟩ := h
  refine ⟨ρ, T, t, F, _, w, h, fun v H1 F1 x T1 w1 g1 r1 h1 => ?_⟩
  refine ⟨ρ, T1, t, F1, _, w.grow g1 w1, h1, fun l H2 F2 T2 w2 g2 h2 => ?_⟩
  refine ⟨ρ, T2, t, F2, _, (w.grow g1 w1).grow g2 w2, h2, fun u H3 F3 T3 w3 g3 h3 => ?_⟩
  have r3 := (r1.mono g2.sub).mono g3.sub
  have f3 := f.then ((g1.trans g2).trans g3)
  split at h3
  · obtain ⟨p, vs, rfl, h, r⟩ := rep_lst r3
    exact .inl ⟨p, vs, rfl, .of (w3.sub _ _ h), fun q hq => f3.lst w3 (cut_rep r l u) hq h3⟩
  · obtain ⟨p, vs, rfl, h, r⟩ := rep_scr r3
    exact .inl ⟨p, vs, rfl, w3.sub.seq h, fun q hq => f3.lst w3 (cut_rep r l u) hq h3⟩
  · have r0 := r3
    obtain ⟨p, vs, rfl, h, r⟩ := rep_tup r3
    refine .inr ⟨p, vs, rfl, same_t w3.sub h, fun hw => ?_, fun _ q hq => f3.tup w3 (cut_rep r l u) hq h3⟩
    rename_i xs
    have e : cutD xs l u = xs := by
      unfold cutD
      rw [r.len, hw.1, hw.2, Nat.sub_zero, List.drop_zero, ← r.len, List.take_length]
    rw [e] at h3
    exact f3.val w3 r0 h3
  · exact h3.elim

/-! xs + ys, xs * n -/
def oCat : Op2 := fun x y k => match x, y with
  | .lst xs, .lst ys => xs.length + ys.length ≤ 1000000 ∧ k (.lst (xs ++ ys))
  | .tup xs, .tup ys => xs.length + ys.length ≤ 1000000 ∧ k (.tup (xs ++ ys))
  | .str s, .str u => s.length + u.length ≤ 1000000 ∧ k (.str (s ++ u))
  | _, _ => False
theorem oCat_ok {K : PySem.W.Frag} : OpS K (fun x y H Q => (rCat x y H Q ∨ rCatA K x y H Q) ∨ ∃ i j, x = .str i ∧ y = .str j ∧ i.length + j.length ≤ sizeLine ∧ Q (.str (i ++ j)) H) oCat := by
  intro t F H T x y v w k Q wt r1 r2 q f
  unfold oCat at q
  split at q
  · obtain ⟨a, vs, rfl, h1, r1⟩ := rep_lst r1
    obtain ⟨b, ws, rfl, h2, r2⟩ := rep_lst r2
    exact .inl (.inl ⟨a, b, vs, ws, rfl, rfl, wt.sub _ _ h1, wt.sub _ _ h2, by rw [← r1.len, ← r2.len]; exact small_line q.1, fun p hp => f.lst wt (r1.app r2) hp q.2⟩)
  · have p1 := r1
    have p2 := r2
    obtain ⟨a, vs, rfl, h1, r1⟩ := rep_tup r1
    obtain ⟨b, ws, rfl, h2, r2⟩ := rep_tup r2
    refine .inl (.inr ⟨a, b, vs, ws, rfl, rfl, same_t wt.sub h1, same_t wt.sub h2, by rw [← r1.len, ← r2.len]; exact small_line q.1, fun e => ?_, fun _ e => ?_, fun _ _ p hp => f.tup wt (r1.app r2) hp q.2⟩)
    · subst e
      cases r1
      exact f.val wt p2 q.2
    · subst e
      cases r2
      rw [List.append_nil] at q
      exact f.val wt p1 q.2
  · cases r1
    cases r2
    exact .inr ⟨_, _, rfl, rfl, small_line q.1, f.val wt (.str _) q.2⟩
  · exact q.elim
/-! in -/
/-! isinstance(e, T), T a built-in type -/
def D.ty : D → String
  | .non => "NoneType" | .bl _ => "bool" | .int _ => "int" | .str _ => "str" | .tup _ => "tuple" | .lst _ => "list" | .scr _ => "list" | .obj _ _ _ => "" | .ref _ => "" | .dct _ _ => "dict"
inductive Ty where | int | bool | str | tuple | list
def Ty.name : Ty → String | .int => "int" | .bool => "bool" | .str => "str" | .tuple => "tuple" | .list => "list"
def isTy : Ty → D → Option Bool
  | _, .obj _ _ _ => none
  | _, .ref _ => none
  | .int, .int _ => some true
  | .int, .bl _ => some true
  | .bool, .bl _ => some true
  | .str, .str _ => some true
  | .tuple, .tup _ => some true
  | .list, .lst _ => some true
  | .list, .scr _ => some true
  | _, _ => some false
theorem isTy_kit {T : Ty} {d : D} {r : Bool} (h : isTy T d = some r) : kitB d.ty T.name = some r := by
  cases T <;> cases d <;> simp [isTy] at h <;> subst h <;> simp only [D.ty, Ty.name] <;> decide +kernel
theorem rep_ty {K : PySem.W.Frag} {F H : Hp} (s : Same F H) {d : D} {v : V} (r : Rep K F d v) (h1 : ∀ C ns vs, d ≠ .obj C ns vs) (h2 : ∀ a, d ≠ .ref a) : TyX K H v (.type d.ty) := by
  cases r with
  | non => exact .base .non
  | bl b => exact .base (.bl b)
  | int i => exact .base (.int i)
  | str x => exact .base (.str x)
  | tup h _ =>
    rcases h with (h | ⟨o, h⟩) | ⟨o, its, n, h, c, _⟩
    · exact .base (.tup (s _ _ h))
    · exact .fTuple (s _ _ h)
    · exact .kTuple h c
  | lst h _ => exact .base (.lst (s _ _ h))
  | scr h _ =>
    rcases h with (h | ⟨o, h⟩) | ⟨o, its, n, h, c, _⟩
    · exact .base (.lst (s _ _ h))
    · exact .base (.frz (s _ _ h))
    · exact .kList h c
  | dct h _ _ => exact .base (.dK (s _ _ h))
  | obj _ _ _ => exact absurd rfl (h1 _ _ _)
  | ref a _ => exact absurd rfl (h2 a)
def dIsi (T : Ty) (fe : dE) : dE := fun ρ S k => fe ρ S fun d S1 => match isTy T d with | some r => k (.bl r) S1 | none => False
theorem d_isi (T' : Ty) {T : Str} {p p2 : Pos} (he : PEd X e fe) (hm : X.mg "isinstance" = none) (hmT : X.mg T = none) (hv : bootBuiltins T = some (.type T'.name) := by decide +kernel) (hg : Gl X "isinstance" := by rfl) (hgT : Gl X T := by rfl) (hn : T ≠ "__name__" := by decide) (hd : (T == ("__debug__" : Str)) = false := by decide)
    (hs : starEach [e, .Name T p2] X.env = (false, eval e X.env) :: starEach [.Name T p2] X.env := by rfl) (hp : (backTo pos (starEach [.Name T p2] X.env)).any (·.1) = false := by rfl) :
    PEd X (.Call (.Name "isinstance" p) [e, .Name T p2] [] pos) (dIsi T' fe) := by
  refine pe_imp (pe_callB call_isi hg hm (by decide +kernel) (pa_cons he (pa_cons (pe_bltn (v := .ty T'.name) hgT hmT hv rfl hn hd) pa_nil) hs) (by decide) (by decide) hs hp) fun σ H Q h => ?_
  obtain ⟨ρ, S, t, F, k, w, h, f⟩ := h
  refine ⟨ρ, S, t, F, _, w, h, fun v H1 F1 d S1 w1 g1 r1 h1 => ?_⟩
  split at h1
  · rename_i r e
    refine ⟨v, .ty T'.name, _, _, r, rfl, .ty T'.name, rep_ty w1.sub r1 (fun C ns vs z => ?_) (fun a z => ?_), kit_ty (isTy_kit e), (f.then g1).val w1 (.bl _) h1⟩
    · subst z; simp [isTy] at e
    · subst z; simp [isTy] at e
  · exact h1.elim
end

/-! lists of the def's own -/
section
variable {X : Cx} {e : Expr} {es : List Expr} {fe : dE} {fr : dA} {pos : Pos} {st : Stmt} {f : dS}
theorem Ws.own {K : PySem.W.Frag} {ρ : En} {T : Tk} {t : Option Addr} {σ : L2.St} {F0 H0 F H : Hp} (w : Ws K ρ T t σ F0 H0 F H) {i : Nat} {l : Addr} {xs : List D} {vs : List V} (hn : H l = none) (r : RepL K F xs vs) :
    Ws K (ρ.set i (some (.own xs))) T t (σ.set i (some (.ref l))) F0 H0 F (upd H l (.lst vs)) := by
  have hF : F l = none := w.w.wt.sub.free hn
  have g : Grow t F H F (upd H l (.lst vs)) := grow_own w.w.wt.sub hn
  have w1 := w.grow g (wt_own w.w.wt hn)
  have hl0 : H0 l = none := by
    cases q : H0 l with
    | none => rfl
    | some o => obtain ⟨o', h'⟩ := w.g.there l o q; rw [hn] at h'; cases h'
  have old : ∀ (j : Nat) (ys : List D) (m : Addr), ρ[j]? = some (some (SV.own ys)) → σ[j]? = some (some (V.ref m)) → m ≠ l := fun j ys m e1 e2 => by
    obtain ⟨v, h1, l', ws, rfl, _, h3, _, _⟩ := w.w.slot j _ e1
    rw [e2] at h1
    cases h1
    exact ne_of_none h3 hn
  refine ⟨⟨w1.w.wt, by simpa using w.w.len, fun j s e => ?_, fun j j' ys zs m e1 e2 e3 e4 => ?_⟩, w1.g, fun j ys m e1 e2 => ?_⟩
  · rcases getSet e with ⟨rfl, hl, e'⟩ | ⟨ne, e'⟩
    · cases e'
      refine ⟨.ref l, by rw [List.getElem?_set_self (by rw [← w.w.len]; exact hl)], l, vs, rfl, hF, upd_same, r, fun z => ?_⟩
      obtain ⟨_, us, hu, _⟩ := w.w.wt.tank l z
      rw [hn] at hu
      cases hu
    · obtain ⟨u, h1, h2⟩ := w1.w.slot j s e'
      exact ⟨u, by rw [List.getElem?_set_ne ne]; exact h1, h2⟩
  · rcases getSet e1 with ⟨rfl, hl1, _⟩ | ⟨n1, e1⟩
    · rcases getSet e2 with ⟨rfl, _, _⟩ | ⟨n2, e2⟩
      · rfl
      · rw [List.getElem?_set_self (by rw [← w.w.len]; exact hl1)] at e3
        cases e3
        rw [List.getElem?_set_ne n2] at e4
        exact absurd rfl (old j' zs _ e2 e4)
    · rw [List.getElem?_set_ne n1] at e3
      rcases getSet e2 with ⟨rfl, hl2, _⟩ | ⟨n2, e2⟩
      · rw [List.getElem?_set_self (by rw [← w.w.len]; exact hl2)] at e4
        cases e4
        exact absurd rfl (old j ys _ e1 e3)
      · rw [List.getElem?_set_ne n2] at e4
        exact w.w.apart j j' ys zs m e1 e2 e3 e4
  · rcases getSet e1 with ⟨rfl, hl1, _⟩ | ⟨n1, e1⟩
    · rw [List.getElem?_set_self (by rw [← w.w.len]; exact hl1)] at e2
      cases e2
      exact hl0
    · rw [List.getElem?_set_ne n1] at e2
      exact w.fr j ys m e1 e2
/-- x = [..], x a list that this def will change -/
def sOwn (i : Nat) (fr : dA) : dS := fun k ρ T => fr ρ T fun as T1 => match vals? as with | some ds => ds.length ≤ 1000000 ∧ k.nx (ρ.set i (some (.own ds))) T1 | none => False
/-- it will not be changed any more -/
def sFrz (i : Nat) (f : dS) : dS := fun k ρ T => match ρ[i]? with | some (some (.own xs)) => f k (ρ.set i (some (.val (.lst xs)))) T | _ => False
theorem Ws.frz {K : PySem.W.Frag} {ρ : En} {T : Tk} {t : Option Addr} {σ : L2.St} {F0 H0 F H : Hp} (w : Ws K ρ T t σ F0 H0 F H) {i : Nat} {xs : List D} (e : ρ[i]? = some (some (.own xs))) :
    ∃ F', Same F F' ∧ Ws K (ρ.set i (some (.val (.lst xs)))) T t σ F0 H0 F' H := by
  obtain ⟨v, hv, l, vs, rfl, hF, hH, r, nt⟩ := w.w.slot i _ e
  have sm : Same F (upd F l (.lst vs)) := same_upd hF
  have sub : Same (upd F l (.lst vs)) H := fun b u q => by
    by_cases hb : b = l
    · subst hb; rw [upd_same] at q; cases q; exact hH
    · rw [upd_ne hb] at q; exact w.w.wt.sub b u q
  have wt : Wt K T t (upd F l (.lst vs)) H := ⟨sub, fun a ea => by
    obtain ⟨n, us, hu, ru⟩ := w.w.wt.tank a ea
    have ne : a ≠ l := fun z => nt (by rw [ea, z])
    exact ⟨by rw [upd_ne ne]; exact n, us, hu, ru.mono sm⟩, w.w.wt.tabs.frz hH⟩
  refine ⟨_, sm, ⟨wt, by simpa using w.w.len, fun j s ej => ?_, fun j j' ys zs m e1 e2 e3 e4 => ?_⟩, ⟨w.g.sub.trans sm, w.g.keepT, fun a o h0 n0 => ?_, w.g.there⟩, fun j ys m e1 e2 => ?_⟩
  · rcases getSet ej with ⟨rfl, _, e'⟩ | ⟨ne, e'⟩
    · cases e'
      exact ⟨.ref l, hv, .lst upd_same (r.mono sm)⟩
    · obtain ⟨u, h1, h2⟩ := w.w.slot j s e'
      refine ⟨u, h1, ?_⟩
      cases s with
      | val d => exact Rep.mono sm h2
      | tank => exact h2
      | exc _ _ => exact ⟨h2.1, fun dd fl x q => let ⟨n, u, f1, r1⟩ := h2.2 dd fl x q; ⟨n, u, f1, r1.mono sm⟩⟩
      | fn _ _ _ => exact h2
      | ptup _ => obtain ⟨a, o, us, e, hf, c1, c2, r⟩ := h2; exact ⟨a, o, us, e, sm _ _ hf, c1, c2, r.mono sm⟩
      | own ys =>
        obtain ⟨m, us, rfl, f1, f2, f3, f4⟩ := h2
        have nm : m ≠ l := fun z => ne (w.w.apart i j xs ys l e e' hv (z ▸ h1))
        exact ⟨m, us, rfl, by rw [upd_ne nm]; exact f1, f2, f3.mono sm, f4⟩
  · rcases getSet e1 with ⟨_, _, z⟩ | ⟨n1, e1⟩
    · cases z
    · rcases getSet e2 with ⟨_, _, z⟩ | ⟨n2, e2⟩
      · cases z
      · exact w.w.apart j j' ys zs m e1 e2 e3 e4
  · have ne : a ≠ l := fun z => by
      have q := w.fr i xs l e hv
      rw [z, q] at h0
      cases h0
    rw [upd_ne ne]
    exact w.g.new a o h0 n0
  · rcases getSet e1 with ⟨_, _, z⟩ | ⟨n1, e1⟩
    · cases z
    · exact w.fr j ys m e1 e2
theorem Ws.chg {K : PySem.W.Frag} {ρ : En} {T : Tk} {t : Option Addr} {σ : L2.St} {F0 H0 F H : Hp} (w : Ws K ρ T t σ F0 H0 F H) {i : Nat} {xs ys : List D} {l : Addr} {ws : List V} (e : ρ[i]? = some (some (.own xs))) (hv : σ[i]? = some (some (.ref l))) (r : RepL K F ys ws) :
    Ws K (ρ.set i (some (.own ys))) T t σ F0 H0 F (upd H l (.lst ws)) := by
  obtain ⟨v, hv2, l2, vs, rfl, hF, hH, r0, nt⟩ := w.w.slot i _ e
  rw [hv] at hv2
  cases hv2
  have ne_t : ∀ a, t = some a → a ≠ l := fun a ea z => nt (by rw [ea, z])
  refine ⟨⟨⟨fun b u q => ?_, fun a ea => ?_, w.w.wt.tabs.chg hH⟩, by simpa using w.w.len, fun j s ej => ?_, fun j j' ys' zs m e1 e2 e3 e4 => ?_⟩, ⟨w.g.sub, fun a o h0 n0 z0 => ?_, w.g.new, fun a o h0 => ?_⟩, fun j ys' m e1 e2 => ?_⟩
  · have ne : b ≠ l := fun z => by rw [z, hF] at q; cases q
    rw [upd_ne ne]
    exact w.w.wt.sub b u q
  · obtain ⟨n, us, hu, ru⟩ := w.w.wt.tank a ea
    exact ⟨n, us, by rw [upd_ne (ne_t a ea)]; exact hu, ru⟩
  · rcases getSet ej with ⟨rfl, _, e'⟩ | ⟨ne, e'⟩
    · cases e'
      exact ⟨.ref l, hv, l, ws, rfl, hF, upd_same, r, nt⟩
    · obtain ⟨u, h1, h2⟩ := w.w.slot j s e'
      refine ⟨u, h1, ?_⟩
      cases s with
      | val d => exact h2
      | tank => exact h2
      | exc _ _ => exact ⟨h2.1, fun dd fl x q => let ⟨n, u, f1, r1⟩ := h2.2 dd fl x q; ⟨n, u, by rw [upd_ne (fun z => by rw [z, hH] at f1; cases f1)]; exact f1, r1⟩⟩
      | ptup _ => exact h2
      | fn _ c _ => exact ⟨h2.1, by rw [upd_ne (fun z => by have f1 := h2.2.1; rw [z, hH] at f1; cases f1)]; exact h2.2.1, h2.2.2⟩
      | own zs =>
        obtain ⟨m, us, rfl, f1, f2, f3, f4⟩ := h2
        have nm : m ≠ l := fun z => ne (w.w.apart i j xs zs l e e' hv (z ▸ h1))
        exact ⟨m, us, rfl, f1, by rw [upd_ne nm]; exact f2, f3, f4⟩
  · have back : ∀ {j : Nat} {zs : List D}, (ρ.set i (some (.own ys)))[j]? = some (some (.own zs)) → ∃ zs', ρ[j]? = some (some (.own zs')) := fun {j zs} q => by
      rcases getSet q with ⟨rfl, _, _⟩ | ⟨_, q⟩
      · exact ⟨_, e⟩
      · exact ⟨_, q⟩
    obtain ⟨_, q1⟩ := back e1
    obtain ⟨_, q2⟩ := back e2
    exact w.w.apart j j' _ _ m q1 q2 e3 e4
  · have ne : a ≠ l := fun z => by
      have q := w.fr i xs l e hv
      rw [z, q] at h0
      cases h0
    rw [upd_ne ne]
    exact w.g.keep a o h0 n0 z0
  · have ne : a ≠ l := fun z => by
      have q := w.fr i xs l e hv
      rw [z, q] at h0
      cases h0
    rw [upd_ne ne]
    exact w.g.there a o h0
  · rcases getSet e1 with ⟨rfl, _, _⟩ | ⟨_, e1⟩
    · exact w.fr i xs m e e2
    · exact w.fr j ys' m e1 e2
/-- x.append(e) -/
def sApp (i : Nat) (fe : dE) : dS := fun k ρ T => match ρ[i]? with | some (some (.own xs)) => fe ρ T fun d T1 => xs.length < 1000000 ∧ k.nx (ρ.set i (some (.own (xs ++ [d])))) T1 | _ => False
end
end L2.G

namespace L2.G
open PySem PySem.Spec PyProof.Rows

/-! what is walked -/
structure Src (K : PySem.W.Frag) (t : Option Addr) (J : It) (F1 : Hp) (xs : List D) : Prop where
  go : ∀ i F H, Same F1 F → Same F H → i < xs.length → J.go i H
  yl : ∀ i T F H x H', Same F1 F → Wt K T t F H → i < xs.length → J.yld i H x H' → ∃ F' d, xs[i]? = some d ∧ Rep K F' d x ∧ Grow t F H F' H' ∧ Wt K T t F' H'
  st : ∀ F H, Same F1 F → Same F H → J.stop xs.length H
abbrev dI := En → Tk → (List D → Tk → Prop) → Prop
def tDI (K : PySem.W.Frag) (f : dI) : TI := fun σ H R => ∃ ρ T t F k, Wd K ρ T t σ F H ∧ f ρ T k ∧ ∀ J H' F' xs T', Wt K T' t F' H' → Grow t F H F' H' → Src K t J F' xs → xs.length ≤ 1000000 → k xs T' → R J H'
abbrev PId (X : Cx) (tg it : Expr) (f : dI) : Prop := PI X tg it (tDI X.K f)
theorem pi_imp {X : Cx} {tg e : Expr} {t u : TI} (h : PI X tg e t) (i : ∀ σ H Q, u σ H Q → t σ H Q) : PI X tg e u := ⟨fun pins s σ H Q I q => h.run pins s σ H Q I (i _ _ _ q)⟩

section
variable {X : Cx} {tg e e2 : Expr} {fe : dE} {fr : dA} {p pos : Pos} {f : dS}
theorem src_list {K : PySem.W.Frag} {t : Option Addr} {F1 : Hp} {a : Addr} {xs : List D} {vs : List V} (h : F1 a = some (.lst vs)) (r : RepL K F1 xs vs) : Src K t (Itl K a) F1 xs where
  go := fun i F H s1 s2 hi => by
    rw [r.len] at hi
    exact ⟨vs, vs[i], .of (s2 _ _ (s1 _ _ h)), by simp [hi]⟩
  yl := fun i T F H x H' s1 w hi y => by
    obtain ⟨rfl, y⟩ := y
    obtain ⟨d, hd, rd⟩ := r.getV (y vs (.of (w.sub _ _ (s1 _ _ h))))
    exact ⟨F, d, hd, rd.mono s1, Grow.refl _ _ _, w⟩
  st := fun F H s1 s2 => ⟨vs, .of (s2 _ _ (s1 _ _ h)), by rw [r.len]; exact Nat.le_refl _⟩
theorem src_tup {K : PySem.W.Frag} {t : Option Addr} {F1 : Hp} {a : Addr} {xs : List D} {vs : List V} (h : SqT K F1 a vs) (r : RepL K F1 xs vs) : Src K t (Itt K a) F1 xs where
  go := fun i F H s1 s2 hi => by
    rw [r.len] at hi
    exact ⟨vs, vs[i], same_t (s1.trans s2) h, by simp [hi]⟩
  yl := fun i T F H x H' s1 w hi y => by
    obtain ⟨rfl, y⟩ := y
    obtain ⟨d, hd, rd⟩ := r.getV (y vs (same_t (s1.trans w.sub) h))
    exact ⟨F, d, hd, rd.mono s1, Grow.refl _ _ _, w⟩
  st := fun F H s1 s2 => ⟨vs, same_t (s1.trans s2) h, by rw [r.len]; exact Nat.le_refl _⟩
theorem src_rng {K : PySem.W.Frag} {t : Option Addr} {F1 : Hp} {lo : Int} {n : Nat} : Src K t (Itr lo n) F1 (intsL lo n) where
  go := fun i F H s1 s2 hi => by rw [intsL_len] at hi; exact hi
  yl := fun i T F H x H' s1 w hi y => by
    rw [intsL_len] at hi
    obtain ⟨rfl, rfl⟩ := y
    exact ⟨F, _, intsL_get n lo i hi, .int _, Grow.refl _ _ _, w⟩
  st := fun F H s1 s2 => by rw [intsL_len]; exact Nat.le_refl n
def iR1 (fr : dA) : dI := fun ρ T k => fr ρ T fun as T1 => match as with | [.val (.int j)] => j ≤ 1000000 ∧ -(2 ^ 62) ≤ j ∧ k (intsL 0 j.toNat) T1 | _ => False
def iR2 (fr : dA) : dI := fun ρ T k => fr ρ T fun as T1 => match as with | [.val (.int i), .val (.int j)] => (j - i ≤ 1000000 ∧ -(2 ^ 61) ≤ i ∧ i < 2 ^ 61 ∧ -(2 ^ 61) ≤ j ∧ j < 2 ^ 61) ∧ k (intsL i (j - i).toNat) T1 | _ => False
theorem i_range1 {a : Expr} (hm : X.mg "range" = none) (ha : PAd X [a] fr) (hg : Gl X "range" := by rfl) (hs : starEach [a] X.env = [(false, eval a X.env)] := by rfl) : PId X tg (.Call (.Name "range" p) [a] [] pos) (iR1 fr) := by
  refine pi_imp (pi_range1 hg hm ha hs) fun σ H R h => ?_
  obtain ⟨ρ, T, t, F, k, w, h, f⟩ := h
  refine ⟨ρ, T, t, F, _, w, h, fun vs H1 F1 as T1 w1 g1 r1 h1 => ?_⟩
  split at h1
  · rename_i j
    cases r1 with
    | val r1 rr =>
      cases rr
      cases r1
      exact ⟨j, rfl, h1.2.1, by have := h1.1; omega, f _ _ _ _ _ w1 g1 src_rng (by rw [intsL_len]; have := h1.1; omega) h1.2.2⟩
  · exact h1.elim
/-- zip of two lists of one length -/
def zipD (xs ys : List D) : List D := List.zipWith (fun x y => D.tup [x, y]) xs ys
def iZ (fr : dA) : dI := fun ρ T k => fr ρ T fun as T1 => match as with | [.val (.lst xs), .val (.lst ys)] => (zipD xs ys).length ≤ 1000000 ∧ k (zipD xs ys) T1 | _ => False
/-! for -/
def sForI (fi : dI) (g : dG) (f : dS) : dS := fun k ρ T => fi ρ T fun xs T1 => forL g f k xs ρ T1
theorem s_forI {body : List Stmt} {g : dG} {fi : dI} (hp : PassesOwn (model X.prog X.w) X.A X.env X.xe) (hc : X.calm = true) (hi : PId X tg e fi) (hg : PGd X tg g) (hb : PSsd X body f) (hst : ∀ x, foldedSetIterable e X.env x = pure x := by intro _; rfl) : PSd X (.For tg e body [] pos) (sForI fi g f) := by
  refine ps_imp (ps_for hp hc hi hg hb hst) fun E σ H h => ?_
  obtain ⟨ρ, T, t, F0, H0, F, k, w, h, fE⟩ := h
  refine ⟨ρ, T, t, F, _, w.w, h, fun J H1 F1 xs T1 w1 g1 src hl h1 => ?_⟩
  refine ⟨fun i m σ' H' => m = xs.length - i ∧ i ≤ xs.length ∧ ∃ ρ' T' F', Ws X.K ρ' T' t σ' F0 H0 F' H' ∧ Same F1 F' ∧ forL g f k (xs.drop i) ρ' T', ⟨xs.length, by simp, Nat.zero_le _, ρ, T1, F1, w.grow g1 w1, Same.refl _, h1⟩, ?_⟩
  rintro i m σ' H' ⟨rfl, hi, ρ', T', F', w', s', hh⟩
  by_cases lt : i < xs.length
  · refine .inr ⟨src.go i F' H' s' w'.w.wt.sub lt, fun σ2 H2 => ∃ ρ' T' F', Ws X.K ρ' T' t σ2 F0 H0 F' H2 ∧ Same F1 F' ∧ forL g f k (xs.drop (i + 1)) ρ' T', fun σ2 H2 q => ⟨xs.length - (i + 1), by omega, rfl, lt, q⟩, fun x H2 y => ?_⟩
    obtain ⟨F2, d, hd, rd, g2, w2⟩ := src.yl i T' F' H' x H2 s' w'.w.wt lt y
    have hx : xs.drop i = d :: xs.drop (i + 1) := by rw [List.drop_eq_getElem_cons lt, (List.getElem?_eq_some_iff.mp hd).2]
    rw [hx] at hh
    have sF := (g1.sub.trans s').trans g2.sub
    refine ⟨ρ', T', t, F0, H0, F2, d, _, w'.grow g2 w2, rd, hh, fun ρ3 T3 σ3 F3 H3 w3 s3 h3 => ?_⟩
    have s3' := (s'.trans g2.sub).trans s3
    refine ⟨ρ3, T3, t, F0, H0, F3, _, w3, h3, ?_⟩
    exact ⟨fun ρ4 T4 σ4 F4 H4 w4 s4 q => ⟨ρ4, T4, F4, w4, s3'.trans s4, q⟩, fE.rt, fE.nx.to (sF.trans s3), fun ρ4 T4 σ4 F4 H4 w4 s4 q => ⟨ρ4, T4, F4, w4, s3'.trans s4, q⟩⟩
  · have e : i = xs.length := by omega
    subst e
    rw [List.drop_length] at hh
    exact .inl ⟨src.st F' H' s' w'.w.wt.sub, fE.nx _ _ _ _ _ w' (g1.sub.trans s') hh⟩

/-! comprehensions -/
theorem wipe_get : ∀ {vs : List Nat} {σ : L2.St} {j : Nat}, (wipe σ vs)[j]? = if j ∈ vs ∧ j < σ.length then some none else σ[j]?
  | [], σ, j => by simp [wipe]
  | v :: vs, σ, j => by
    unfold wipe
    by_cases e : v = j
    · subst e
      by_cases hl : v < σ.length
      · rw [List.getElem?_set_self (by rw [wipe_length]; exact hl), if_pos ⟨List.mem_cons_self, hl⟩]
      · rw [List.getElem?_eq_none (by rw [List.length_set, wipe_length]; omega), if_neg (fun z => hl z.2), List.getElem?_eq_none (by omega)]
    · rw [List.getElem?_set_ne e, wipe_get]
      have : (j ∈ v :: vs) ↔ j ∈ vs := by simp [Ne.symm e]
      simp only [this]
theorem wipe_set {vs : List Nat} {σ : L2.St} {i : Nat} {v : Option V} (h : i ∈ vs) : wipe (σ.set i v) vs = wipe σ vs := by
  apply List.ext_getElem?
  intro j
  rw [wipe_get, wipe_get, List.length_set]
  by_cases e : i = j
  · subst e
    by_cases hl : i < σ.length
    · rw [if_pos ⟨h, hl⟩, if_pos ⟨h, hl⟩]
    · rw [if_neg (fun z => hl z.2), if_neg (fun z => hl z.2), List.getElem?_eq_none (by simpa using hl), List.getElem?_eq_none (by simpa using hl)]
  · rw [List.getElem?_set_ne e]
theorem wipe_idem {vs : List Nat} {σ : L2.St} : wipe (wipe σ vs) vs = wipe σ vs := by
  apply List.ext_getElem?
  intro j
  rw [wipe_get, wipe_get, wipe_length]
  split
  · rfl
  · rfl
def wipeD (ρ : En) : List Nat → En
  | [] => ρ
  | v :: vs => (wipeD ρ vs).set v none
theorem wd_none {K : PySem.W.Frag} {ρ : En} {T : Tk} {t : Option Addr} {σ : L2.St} {F H : Hp} (w : Wd K ρ T t σ F H) (i : Nat) : Wd K (ρ.set i none) T t (σ.set i none) F H := by
  refine ⟨w.wt, by simpa using w.len, fun j s e => ?_, fun j j' xs ys l e1 e2 e3 e4 => ?_⟩
  · rcases getSet e with ⟨_, _, z⟩ | ⟨ne, e'⟩
    · cases z
    · obtain ⟨u, h1, h2⟩ := w.slot j s e'
      exact ⟨u, by rw [List.getElem?_set_ne ne]; exact h1, h2⟩
  · rcases getSet e1 with ⟨_, _, z⟩ | ⟨n1, e1⟩
    · cases z
    · rcases getSet e2 with ⟨_, _, z⟩ | ⟨n2, e2⟩
      · cases z
      · rw [List.getElem?_set_ne n1] at e3
        rw [List.getElem?_set_ne n2] at e4
        exact w.apart j j' xs ys l e1 e2 e3 e4
theorem wd_wipe {K : PySem.W.Frag} {ρ : En} {T : Tk} {t : Option Addr} {σ : L2.St} {F H : Hp} (w : Wd K ρ T t σ F H) : ∀ vs : List Nat, Wd K (wipeD ρ vs) T t (wipe σ vs) F H
  | [] => w
  | v :: vs => wd_none (wd_wipe w vs) v
/-- the targets of a comprehension -/
abbrev dC1 := D → En → Option En
def CG (K : PySem.W.Frag) (g : TG) (c : dC1) (vs : List Nat) : Prop := ∀ {ρ : En} {T : Tk} {t : Option Addr} {σ : L2.St} {F H : Hp} {d : D} {v : V} {ρ1 : En} {Q : L2.St → Hp → Prop}, Wd K ρ T t σ F H → Rep K F d v → c d ρ = some ρ1 → (∀ σ1, Wd K ρ1 T t σ1 F H → wipe σ1 vs = wipe σ vs → Q σ1 H) → g v σ H Q
def cN (i : Nat) : dC1 := fun d ρ => some (ρ.set i (some (.val d)))
theorem cg_name {K : PySem.W.Frag} {i : Nat} {vs : List Nat} (h : i ∈ vs := by decide) : CG K (gName i) (cN i) vs := fun w r e q => by
  cases e
  exact q _ (w.put r) (wipe_set h)
def setAll : List Nat → List D → En → Option En
  | [], [], ρ => some ρ
  | i :: is, d :: ds, ρ => setAll is ds (ρ.set i (some (.val d)))
  | _, _, _ => none
def cT (is : List Nat) : dC1 := fun d ρ => match d with | .tup ds => setAll is ds ρ | _ => none
def lcD (ρ : En) (c : dC1) (tt : dT) (el : dE) (k : List D → Tk → Prop) : List D → List D → Tk → Prop
  | [], acc, T => k acc T
  | d :: r, acc, T => match c d ρ with
    | some ρ1 => tt ρ1 T fun b T1 => if b = true then el ρ1 T1 fun y T2 => lcD ρ c tt el k r (acc ++ [y]) T2 else lcD ρ c tt el k r acc T1
    | none => False
def dLc (vs : List Nat) (fi : dI) (c : dC1) (tt : dT) (el : dE) : dE := fun ρ T k => fi ρ T fun xs T1 => lcD (wipeD ρ vs) c tt el (fun acc T2 => k (.lst acc) T2) xs [] T1
def dYes : dT := fun _ T k => k true T
theorem pts_imp {ifs : List Expr} {t u : TT} (h : PTs X ifs t) (i : ∀ σ H Q, u σ H Q → t σ H Q) : PTs X ifs u := ⟨fun pins s σ H Q I q => h.run pins s σ H Q I (i _ _ _ q)⟩
theorem ts_nil : PTs X [] (tDT X.K dYes) := pts_imp pts_nil fun σ H Q ⟨ρ, T, t, F, k, w, h, f⟩ => f _ _ _ _ w.wt (Grow.refl _ _ _) h
theorem ts_one {c : Expr} {tc : dT} (h : PTd X c tc) : PTs X [c] (tDT X.K tc) := pts_one h
theorem lc_ok {K : PySem.W.Frag} {fi : dI} {g : TG} {c : dC1} {tt : dT} {el : dE} {vs : List Nat} (cg : CG K g c vs) {σ : L2.St} {H : Hp} {Q : VK} (h : tD K (dLc vs fi c tt el) σ H Q) : tLc (tDI K fi) g (tDT K tt) (tD K el) vs σ H Q := by
  obtain ⟨ρ, T, t, F, k, w, h, f⟩ := h
  refine ⟨ρ, T, t, F, _, w, h, fun J H1 F1 xs T1 w1 g1 src hl h1 => ?_⟩
  intro L hL
  have wd1 := w.grow g1 w1
  refine ⟨fun i m H' => m = xs.length - i ∧ i ≤ xs.length ∧ ∃ acc av T' F', Wt K T' t F' H' ∧ Grow t F1 H1 F' H' ∧ F' L = none ∧ H' L = some (.lst av) ∧ RepL K F' acc av ∧ acc.length ≤ i ∧ lcD (wipeD ρ vs) c tt el (fun acc T2 => k (.lst acc) T2) (xs.drop i) acc T', ?_, ?_⟩
  · refine ⟨xs.length, by simp, Nat.zero_le _, [], [], T1, F1, wt_own w1 hL, grow_own w1.sub hL, w1.sub.free hL, upd_same, .nil, Nat.le_refl _, ?_⟩
    exact h1
  rintro i m H' ⟨rfl, hi, acc, av, T', F', wt', g', fL, hLv, ra, hal, hh⟩
  have tL : t ≠ some L := fun z => by
    obtain ⟨_, us, hu, _⟩ := w1.tank L z
    rw [hL] at hu
    cases hu
  by_cases lt : i < xs.length
  · refine .inr ⟨src.go i F' H' g'.sub wt'.sub lt, fun H2 => ∃ acc av T' F', Wt K T' t F' H2 ∧ Grow t F1 H1 F' H2 ∧ F' L = none ∧ H2 L = some (.lst av) ∧ RepL K F' acc av ∧ acc.length ≤ i + 1 ∧ lcD (wipeD ρ vs) c tt el (fun acc T2 => k (.lst acc) T2) (xs.drop (i + 1)) acc T', fun H2 q => ⟨xs.length - (i + 1), by omega, rfl, lt, q⟩, fun x H2 y => ?_⟩
    obtain ⟨F2, d, hd, rd, g2, w2⟩ := src.yl i T' F' H' x H2 g'.sub wt' lt y
    have hx : xs.drop i = d :: xs.drop (i + 1) := by rw [List.drop_eq_getElem_cons lt, (List.getElem?_eq_some_iff.mp hd).2]
    rw [hx] at hh
    unfold lcD at hh
    split at hh
    · rename_i ρ1 e1
      have wd2 : Wd K (wipeD ρ vs) T' t (wipe σ vs) F2 H2 := wd_wipe (wd1.grow (g'.trans g2) w2) vs
      refine cg wd2 rd e1 fun σ1 ws1 ew => ⟨by rw [ew, wipe_idem], ?_⟩
      refine ⟨ρ1, T', t, F2, _, ws1, hh, fun b H3 F3 T3 w3 g3 h3 => ?_⟩
      have gg := (g'.trans g2).trans g3
      have hL2 := g2.keep _ _ hLv tL
      have hL3 := g3.keep _ _ hL2 tL
      have fL2 := g2.new _ _ hLv fL
      have fL3 := g3.new _ _ hL2 fL2
      have ra3 := (ra.mono g2.sub).mono g3.sub
      cases b with
      | false => exact ⟨acc, av, T3, F3, w3, gg, fL3, hL3, ra3, by omega, h3⟩
      | true =>
        rw [if_pos rfl] at h3
        refine iteT ⟨ρ1, T3, t, F3, _, ws1.grow g3 w3, h3, fun u H4 F4 z T4 w4 g4 r4 h4 => ?_⟩
        have hL4 := g4.keep _ _ hL3 tL
        have fL4 := g4.new _ _ hL3 fL3
        have ra4 := ra3.mono g4.sub
        refine ⟨av, hL4, by rw [← ra4.len, sizeLine_eq]; omega, acc ++ [z], av ++ [u], T4, F4, ?_, ?_, fL4, upd_same, ra4.app (.cons r4 .nil), by simp; omega, h4⟩
        · refine ⟨fun b o q => ?_, fun a ea => ?_, w4.tabs.chg hL4⟩
          · have ne : b ≠ L := fun z => by rw [z, fL4] at q; cases q
            rw [upd_ne ne]
            exact w4.sub b o q
          · obtain ⟨n, us, hu, ru⟩ := w4.tank a ea
            have ne : a ≠ L := fun z => tL (by rw [ea, z])
            exact ⟨n, us, by rw [upd_ne ne]; exact hu, ru⟩
        · have gg4 := gg.trans g4
          refine ⟨gg4.sub, fun a o q n z => ?_, gg4.new, fun a o q => ?_⟩
          · rw [upd_ne (ne_of_none q hL)]
            exact gg4.keepT a o q n z
          · rw [upd_ne (ne_of_none q hL)]
            exact gg4.there a o q
    · exact hh.elim
  · have e : i = xs.length := by omega
    subst e
    rw [List.drop_length] at hh
    refine .inl ⟨src.st F' H' g'.sub wt'.sub, ?_⟩
    have sm : Same F' (upd F' L (.lst av)) := same_upd fL
    refine f (.ref L) H' (upd F' L (.lst av)) (.lst acc) T' ⟨fun b o q => ?_, fun a ea => ?_, wt'.tabs.frz hLv⟩ (g1.trans ⟨g'.sub.trans sm, g'.keepT, fun a o q n => ?_, g'.there⟩) (.lst upd_same (ra.mono sm)) hh
    · by_cases hb : b = L
      · subst hb; rw [upd_same] at q; cases q; exact hLv
      · rw [upd_ne hb] at q; exact wt'.sub b o q
    · obtain ⟨n, us, hu, ru⟩ := wt'.tank a ea
      have ne : a ≠ L := fun z => tL (by rw [ea, z])
      exact ⟨by rw [upd_ne ne]; exact n, us, hu, ru.mono sm⟩
    · rw [upd_ne (ne_of_none q hL)]
      exact g'.new a o q n
theorem d_lc {elt iter : Expr} {ifs : List Expr} {scope : Scope} {fi : dI} {g : TG} {c : dC1} {tt : dT} {el : dE} (own : List (Str × Nat)) (hc : X.calm = true) (hN : X.N.Nodup) (hi : PId X tg iter fi) (cg : CG X.K g c (own.map (·.2)))
    (hg : ∀ (s : Shared) (H : Hp) (C : Addr) (cl : List (Str × Addr)) (fp : List Addr), PG (X.blk s H scope (compEnvC scope cl C X.env) fp) tg g)
    (ht : ∀ (s : Shared) (H : Hp) (C : Addr) (cl : List (Str × Addr)) (fp : List Addr), PTs (X.blk s H scope (compEnvC scope cl C X.env) fp) ifs (tDT X.K tt))
    (he : ∀ (s : Shared) (H : Hp) (C : Addr) (cl : List (Str × Addr)) (fp : List Addr), PEd (X.blk s H scope (compEnvC scope cl C X.env) fp) elt el)
    (ok : BlkOk X.N X.env.scope scope own := by exact blkOk_by (by decide +kernel)) (hs : ∀ x, foldedSetIterable iter X.env x = pure x := by intro _; rfl) :
    PEd X (.ListComp elt [⟨tg, iter, ifs, 0⟩] scope pos) (dLc (own.map (·.2)) fi c tt el) :=
  pe_imp (pe_lc (te := tD X.K el) hc hN hi ok hg ht he hs) fun _ _ _ h => lc_ok cg h
end
end L2.G

namespace L2.G
open PySem PySem.Spec PyProof.Rows

/-! the list that is changed in its place -/
section
variable {X : Cx} {e : Expr} {es : List Expr} {fe : dE} {fr : dA} {p pos : Pos} {f g : dS}
def isTank (ρ : En) (i : Nat) : Prop := match ρ[i]? with | some (some .tank) => True | _ => False
def dTix (i : Nat) (fe : dE) : dE := fun ρ T k => isTank ρ i ∧ fe ρ T fun d T1 => match d with | .int j => (match atI T1 j with | some x => k x T1 | none => False) | _ => False
theorem tank_slot {K : PySem.W.Frag} {ρ : En} {T : Tk} {t : Option Addr} {σ : L2.St} {F H : Hp} (w : Wd K ρ T t σ F H) {i : Nat} (h : isTank ρ i) : ∃ a, t = some a ∧ σ[i]? = some (some (.ref a)) := by
  unfold isTank at h
  split at h
  · rename_i e
    obtain ⟨v, h1, a, h2, rfl⟩ := w.slot i _ e
    exact ⟨a, h2, h1⟩
  · exact h.elim
theorem d_tix (i : Nat) {x : Str} {p1 : Pos} (he : PEd X e fe) (hs : PlainIx e := by exact fun _ _ => rfl) (hN : X.N[i]? = some x := by rfl) (hv : Vis X.env.scope x := by first | exact Or.inl rfl | exact Or.inr (Or.inl rfl) | exact Or.inr (Or.inr rfl))
    (hd : (x == ("__debug__" : Str)) = false := by decide) (hc : (x == ("__classdict__" : Str)) = false := by decide) : PEd X (.Subscript (.Name x p1) e pos) (dTix i fe) := by
  refine pe_imp (pe_ix ix_list (pe_var hN hv hd hc) he hs) fun σ H Q h => ?_
  obtain ⟨ρ, T, t, F, k, w, ⟨ht, h⟩, f⟩ := h
  obtain ⟨a, rfl, hσ⟩ := tank_slot w ht
  refine ⟨_, hσ, ρ, T, some a, F, _, w, h, fun v H1 F1 d T1 w1 g1 r1 h1 => ?_⟩
  split at h1
  · split at h1
    · rename_i e1
      cases r1
      obtain ⟨_, vs, hH, r⟩ := w1.tank a rfl
      obtain ⟨u, e2, ru⟩ := atI_rep r e1
      exact ⟨a, vs, _, u, rfl, rfl, .of hH, e2, (f.then g1).val w1 ru h1⟩
    · exact h1.elim
  · exact h1.elim
theorem Ws.tk {K : PySem.W.Frag} {ρ : En} {T T' : Tk} {σ : L2.St} {F0 H0 F H : Hp} {a : Addr} {ws : List V} (w : Ws K ρ T (some a) σ F0 H0 F H) (r : RepL K F T' ws) : Ws K ρ T' (some a) σ F0 H0 F (upd H a (.lst ws)) := by
  obtain ⟨hF, vs0, hA0, _⟩ := w.w.wt.tank a rfl
  refine ⟨⟨⟨fun b u q => ?_, fun b eb => ?_, w.w.wt.tabs.chg hA0⟩, w.w.len, fun j s ej => ?_, w.w.apart⟩, ⟨w.g.sub, fun b o h0 n0 z0 => ?_, w.g.new, fun b o h0 => ?_⟩, w.fr⟩
  · have ne : b ≠ a := fun z => by rw [z, hF] at q; cases q
    rw [upd_ne ne]
    exact w.w.wt.sub b u q
  · cases eb
    exact ⟨hF, ws, upd_same, r⟩
  · obtain ⟨u, h1, h2⟩ := w.w.slot j s ej
    refine ⟨u, h1, ?_⟩
    cases s with
    | val d => exact h2
    | tank => exact h2
    | exc _ _ => exact ⟨h2.1, fun dd fl x q => let ⟨n, u, f1, r1⟩ := h2.2 dd fl x q; ⟨n, u, by rw [upd_ne (fun z => n (by rw [z]))]; exact f1, r1⟩⟩
    | ptup _ => exact h2
    | fn _ c _ => exact ⟨h2.1, by rw [upd_ne (fun z => h2.2.2 (by rw [z]))]; exact h2.2.1, h2.2.2⟩
    | own zs =>
      obtain ⟨m, us, rfl, f1, f2, f3, f4⟩ := h2
      have nm : m ≠ a := fun z => f4 (by rw [z])
      exact ⟨m, us, rfl, f1, by rw [upd_ne nm]; exact f2, f3, f4⟩
  · have ne : b ≠ a := fun z => n0 (by rw [z])
    rw [upd_ne ne]
    exact w.g.keepT b o h0 n0 z0
  · by_cases hb : b = a
    · subst hb; exact ⟨_, upd_same⟩
    · rw [upd_ne hb]; exact w.g.there b o h0
def gTs (i : Nat) (fe : dE) : dG := fun d ρ T k => isTank ρ i ∧ fe ρ T fun j T1 => match j with | .int j => (match ixN T1.length j with | some m => k ρ (T1.set m d) | none => False) | _ => False
theorem g_tset (i : Nat) {x : Str} {p1 : Pos} (he : PEd X e fe) (hN : X.N[i]? = some x := by rfl) (hv : Vis X.env.scope x := by first | exact Or.inl rfl | exact Or.inr (Or.inl rfl) | exact Or.inr (Or.inr rfl))
    (hd : (x == ("__debug__" : Str)) = false := by decide) (hc : (x == ("__classdict__" : Str)) = false := by decide) (ha : ∀ v, assign (.Subscript (.Name x p1) e pos) X.env v = (do
      let ov ← holding [v] (eval (.Name x p1) X.env); let iv ← holding [v, ov] (eval e X.env); standAt pos; holding [v, ov, iv] (setItem ov iv v); release [v, ov, iv] []) := by intro _; rfl) : PGd X (.Subscript (.Name x p1) e pos) (gTs i fe) := by
  refine pg_imp (pg_sub (pe_var hN hv hd hc) he set_list ha) fun v σ H Q h => ?_
  obtain ⟨ρ, T, t, F0, H0, F, d, k, w, r, ⟨ht, h⟩, f⟩ := h
  obtain ⟨a, rfl, hσ⟩ := tank_slot w.w ht
  refine ⟨_, hσ, ρ, T, some a, F, _, w.w, h, fun u H1 F1 j T1 w1 g1 r1 h1 => ?_⟩
  split at h1
  · split at h1
    · rename_i e1
      cases r1
      obtain ⟨_, vs, hH, rt⟩ := w1.tank a rfl
      rw [rt.len] at e1
      exact ⟨a, vs, _, _, rfl, rfl, hH, e1, f _ _ _ _ _ ((w.grow g1 w1).tk (rt.set (r.mono g1.sub) _)) g1.sub h1⟩
    · exact h1.elim
  · exact h1.elim

/-! a def that ends by return [..]: the list is new -/
def FinO (K : PySem.W.Frag) (t : Option Addr) (F H : Hp) (k : KD) (n : VK) : Prop := ∀ l lv H' F' xs T', Wt K T' t F' H' → Grow t F H F' H' → H l = none → F' l = none → H' l = some (.lst lv) → RepL K F' xs lv → k (.lst xs) T' → n (.ref l) H'
def tDSo (K : PySem.W.Frag) (f : En → Tk → KD → Prop) : TS := fun E σ H => ∃ ρ T t F0 H0 F k, Ws K ρ T t σ F0 H0 F H ∧ f ρ T k ∧ FinO K t F0 H0 k E.rt
abbrev PSo (X : Cx) (st : List Stmt) (f : En → Tk → KD → Prop) : Prop := PSs X st (tDSo X.K f)
def no0 : dEnds := { nx := fun _ _ => False, rt := fun _ _ => False, bk := fun _ _ => False, ct := fun _ _ => False }
theorem so_cons {st : Stmt} {rest : List Stmt} {f : dS} {g : En → Tk → KD → Prop} (h1 : PSd X st f) (h2 : PSo X rest g) : PSo X (st :: rest) (fun ρ T k => f { no0 with nx := fun ρ1 T1 => g ρ1 T1 k } ρ T) := by
  refine pss_imp (pss_cons h1 h2) fun E σ H h => ?_
  obtain ⟨ρ, T, t, F0, H0, F, k, w, h, fe⟩ := h
  exact ⟨ρ, T, t, F0, H0, F, _, w, h, ⟨fun ρ' T' σ' F' H' w' _ h' => ⟨ρ', T', t, F0, H0, F', k, w', h', fe⟩, fun _ _ _ _ _ _ _ _ q => q.elim, fun _ _ _ _ _ _ _ q => q.elim, fun _ _ _ _ _ _ _ q => q.elim⟩⟩
theorem so_ret {lp : Pos} (ha : PAd X es fr) : PSo X [.Return (some (.List es lp)) pos] (fun ρ T k => fr ρ T fun as T1 => match vals? as with | some ds => ds.length ≤ 1000000 ∧ k (.lst ds) T1 | none => False) := by
  refine pss_imp (pss_one (ps_ret (pe_lst ha))) fun E σ H h => ?_
  obtain ⟨ρ, T, t, F0, H0, F, k, w, h, fe⟩ := h
  refine ⟨ρ, T, t, F, _, w.w, h, fun vs H1 F1 as T1 w1 g1 r1 h1 => ?_⟩
  split at h1
  · rename_i ds e
    have r := r1.vals e
    refine ⟨by rw [← r.len]; exact small_line h1.1, fun l hl => ?_⟩
    have g2 := (w.g.trans g1).trans (grow_own (o := .lst vs) w1.sub hl)
    refine fe l vs _ F1 ds T1 (wt_own w1 hl) g2 ?_ (w1.sub.free hl) upd_same r h1.2
    cases q : H0 l with
    | none => rfl
    | some o =>
      obtain ⟨o', h'⟩ := (w.g.trans g1).there l o q
      rw [hl] at h'
      cases h'
  · exact h1.elim
def spO (K : PySem.W.Frag) (n : Nat) (sem : Sem) : Sp := fun vs H Q _ => vs.length = n ∧ ∃ F t T as k, ArgL K t F as vs ∧ Wt K T t F H ∧ sem as T k ∧ FinO K t F H k Q
def OkO (P : Program) (w : World) (K : PySem.W.Frag) (mg : Str → Option Value) (base : Heap) (n : Nat) (x : Str) (ps : List Str) (sem : Sem) : Prop :=
  ∃ f fd, mg x = some (.ref f) ∧ PySem.W.keepIn K (.ref f) = true ∧ Binds K fd ps [] ∧ GFn P w K mg base CX0 n f fd ps (spO K ps.length sem)
end
def semO (N : List Str) (b : En → Tk → KD → Prop) : Sem := fun as T k => b (start' N as) T k
theorem ok_defO {P : Program} {w : World} {K : PySem.W.Frag} {mg : Str → Option Value} {base : Heap} {n : Nat} {x : Str} {st : Stmt} {N ps : List Str} {b : En → Tk → KD → Prop} (h : Df K mg x st) (S : FnScope N ps (defScope st))
    (hb1 : ∀ (kV doc pm : Value) (an : Option Addr) (cdv ct : Value) (us : List Value), us.length = ps.length → bindArgs (PySem.W.fnOf x x (defArgs st) (defBody st) (defScope st) .none kV doc pm an cdv ct) ⟨us, []⟩ = pure (ps.zip us))
    (body : ∀ (f : Addr) (cdv : Value) (A : Around) (fs : List Env) (s : Shared) (H : Hp) (E : XK), CdAt K mg x f cdv → Room n (A.deeper (envOfC x (defScope st) s.heap.objs.size f cdv)) → A.guards = some [] → PSo (CxD P w K mg base N x st f cdv A fs s H E) (defBody st) b) :
    OkO P w K mg base (n + 1) x ps (semO N b) := by
  obtain ⟨f, fd, Fn, hm⟩ := h
  refine ⟨f, fd, hm, Fn.kp, Fn.binds hb1, ?_⟩
  obtain ⟨oc, od, kV, doc, pm, an, cdv, ct, osl, rfl, lk, hcd⟩ := Fn.ex
  refine gfn_body lk hcd S (fun vs H Q E q => q.1) fun A fs s H vs Q E hr hgd hsp => ?_
  obtain ⟨hl, F, t, T, as, k, ar, wt, h, fin⟩ := hsp
  refine ⟨_, (body f cdv A fs s H E ⟨hm, _, _, _, _, lk, rfl, kdsCode_of hcd⟩ hr hgd).nox, start' N as, T, t, F, H, F, _, ⟨wd_start ar wt, Grow.refl _ _ _, fun i xs l e1 _ => ?_⟩, h, fin⟩
  exact absurd rfl ((argGet (H := H) ar i _ (startGet e1)).2 xs)
theorem OkO.mono {P : Program} {w : World} {K : PySem.W.Frag} {mg : Str → Option Value} {base : Heap} {m n : Nat} {x : Str} {ps : List Str} {sem : Sem} (h : OkO P w K mg base m x ps sem) (l : m ≤ n) : OkO P w K mg base n x ps sem :=
  let ⟨f, fd, h1, h2, h3, h4⟩ := h; ⟨f, fd, h1, h2, h3, h4.mono l⟩
section
variable {X : Cx} {e : Expr} {es : List Expr} {fr : dA} {p pos q pos2 : Pos} {x y : Str} {n m : Nat} {ps qs : List Str} {sem so : Sem}
/-- f(new(..)): the new list is f's own -/
def dCallT (m : Nat) (sem so : Sem) (fr : dA) : dE := fun ρ T k => fr ρ T fun as T1 => as.length = m ∧ so as T1 fun d T2 => match d with | .lst xs => sem [.tank] xs fun r _ => k r T2 | _ => False
theorem d_callT (G : Ok X.prog X.w X.K X.mg X.base n x ps sem) (O : OkO X.prog X.w X.K X.mg X.base m y qs so) (hr : Room n X.A) (hr2 : Room m X.A) (hgd : X.A.guards = some []) (ha : PAd X (e :: es) fr) (h1 : ps.length = 1) (hg : Gl X x := by rfl) (hg2 : Gl X y := by rfl)
    (hd : (x == ("__debug__" : Str)) = false := by decide) (hd2 : (y == ("__debug__" : Str)) = false := by decide) (he : starEach (e :: es) X.env = (false, eval e X.env) :: starEach es X.env := by rfl) (hp : (backTo pos2 (starEach es X.env)).any (·.1) = false := by rfl)
    (he2 : starEach [.Call (.Name y q) (e :: es) [] pos2] X.env = (false, eval (.Call (.Name y q) (e :: es) [] pos2) X.env) :: starEach [] X.env := by rfl) (hp2 : (backTo pos (starEach [] X.env)).any (·.1) = false := by rfl) :
    PEd X (.Call (.Name x p) [.Call (.Name y q) (e :: es) [] pos2] [] pos) (dCallT qs.length sem so fr) := by
  obtain ⟨f, fd, a1, a2, a3, _, a5, _⟩ := G
  obtain ⟨f', fd', b1, b2, b3, b5⟩ := O
  refine pe_imp (g_call (E := E0) a5 hr hgd hg a1 a2 a3 pass0 (pa_cons (g_call (E := E0) b5 hr2 hgd hg2 b1 b2 b3 pass0 ha hd2 he hp) pa_nil he2) hd he2 hp2) fun σ H Q h => ?_
  obtain ⟨ρ, T, t, F, k, w, h, fin⟩ := h
  refine ⟨ρ, T, t, F, _, w, h, fun vs H1 F1 as T1 w1 g1 r1 h1' => ?_⟩
  show spO X.K qs.length so (vs ++ []) H1 _ E0
  rw [List.append_nil]
  refine ⟨by rw [← r1.len]; exact h1'.1, F1, t, T1, as, _, r1, w1, h1'.2, fun l lv H2 F2 xs T2 w2 g2 hl hF2 hH2 rx h2 => ?_⟩
  refine ⟨by rw [h1]; rfl, F2, some l, xs, [.tank], _, .tank rfl .nil, ⟨w2.sub, fun a ea => ?_, w2.tabs⟩, h2, fun v H3 F3 d T3 w3 g3 r3 h3 => ?_⟩
  · cases ea
    exact ⟨hF2, lv, hH2, rx⟩
  · have keep : ∀ a o, H1 a = some o → t ≠ some a → noTb o → H3 a = some o := fun a o q n z => g3.keepT a o (g2.keepT a o q n z) (fun z => by cases z; rw [hl] at q; cases q) z
    have tk : ∀ a, t = some a → F3 a = none ∧ ∃ vs, H3 a = some (.lst vs) ∧ RepL X.K F3 T2 vs := fun a ea => by
      obtain ⟨n, us, hu, ru⟩ := w2.tank a ea
      obtain ⟨_, us1, hu1, _⟩ := w1.tank a ea
      have ne : some l ≠ some a := fun z => by cases z; rw [hl] at hu1; cases hu1
      exact ⟨g3.new _ _ hu n, us, g3.keep _ _ hu ne, ru.mono g3.sub⟩
    refine fin v H3 F3 d T2 ⟨w3.sub, tk, w3.tabs⟩ (g1.trans ⟨g2.sub.trans g3.sub, keep, fun a o q n => ?_, fun a o q => ?_⟩) r3 h3
    · obtain ⟨o', q'⟩ := g2.there a o q
      exact g3.new a o' q' (g2.new a o q n)
    · obtain ⟨o', q'⟩ := g2.there a o q
      exact g3.there a o' q'
end

/-! the end: the law is called; cs: the code objects of the defs that make lambdas, and their tables (empty at first) -/
def OnlyT (ts : List Addr) (H : Hp) : Prop := ∀ b, H b = none ∨ b ∈ ts ∨ ∃ o xs, H b = some (.frz o (.lst xs))
theorem g_lawT {P : Program} {w : World} {K : PySem.W.Frag} {mg mb : Str → Option Value} {CX : CXT} {k : Nat} {fa a : Addr} {fd : FuncData} {x : Str} {sp : Sp} {s1 : Shared} {vs : List Value} {ns : List Int} {ts : List Addr} (KX : K.In s1.heap) (hns : s1.heap.Ns mainGlobals mg)
    (hb : s1.heap.Ns builtinsNs mb) (hbb : ∀ x : Str, x ≠ "__name__" → mb x = bootBuiltins x) (hlim : s1.heap.NoLimit) (hg : s1.gens = #[]) (hT : ∀ b ∈ ts, ∃ c, s1.heap.TableAt c b #[]) (nT : ∀ b ∈ ts, K.lookup b = none)
    (ha : s1.heap.get? a = some { cls := .type "list", data := .seq vs.toArray }) (hi : IntsAre vs ns) (hl : ns.length ≤ sizeLine)
    (hr : Room k callerA) (G : ∀ base : Heap, K.In base → base.Ns mainGlobals mg → GFn P w K mg base CX k fa fd [x] sp) (hbind : ∀ u : Value, BindsTo s1 fd ⟨[u], []⟩ [(x, u)])
    (hsp : ∀ H : Hp, OnlyT ts H → (∀ b ∈ ts, H b = some (.tbl #[])) → SqL K H a (ns.map V.int) → sp [.ref a] H (fun v _ => v = .bl true) fun _ _ _ => False) (hCX : ∀ H e s', CX [] H s1 (fun _ _ _ => False) e s' → False) :
    codeAny (model P w) callerA (.call (.ref fa) ⟨[.ref a], []⟩) (fun r s' => r = .ok (.ret (.bool true)) ∧ OldK s1.heap s'.heap ∧ s'.os = s1.os ∧ AllBare s'.gens) s1 := by
  have rv := vals_ints hi
  have lenV := hi.length
  have gT : ∀ b ∈ ts, s1.heap.get? b = some { cls := .none, data := .fields #[] } := fun b q => let ⟨_, h⟩ := hT b q; h.2
  have aT : a ∉ ts := fun z => by
    have q := gT a z
    rw [ha] at q
    exact nomatch (show Data.seq vs.toArray _ = Data.fields #[] from congrArg Obj.data (Option.some.inj q))
  have core : ∀ H : Hp, OnlyT ts H → (∀ b ∈ ts, H b = some (.tbl #[])) → SqL K H a (ns.map V.int) → HOk P w H s1.heap → (∀ b, H b ≠ none → b = a ∨ b ∈ ts) → (H a ≠ none → K.lookup a = none) →
      codeAny (model P w) callerA (.call (.ref fa) ⟨[.ref a], []⟩) (fun r s' => r = .ok (.ret (.bool true)) ∧ OldK s1.heap s'.heap ∧ s'.os = s1.os ∧ AllBare s'.gens) s1 := by
    intro H hO hH hS hok hA hK
    have free : ∀ {b : Addr}, b ≠ a → b ∉ ts → H b = none := fun {b} nb nt => Classical.byContradiction fun z => (hA b z).elim nb nt
    have dicts : ∀ {b : Addr} {o : Obj} {es : Array DictEntry} {ep : Nat}, s1.heap.get? b = some o → o.data = .dict es ep → H b = none := fun {b o es ep} e d => free (fun z => by
      subst z
      cases ha.symm.trans e
      exact nomatch (show Data.seq vs.toArray _ = Data.dict es ep from d)) fun z => by
      cases (gT b z).symm.trans e
      exact nomatch (show Data.fields #[] = Data.dict es ep from d)
    have ns' : ∀ {b : Addr} {m : Str → Option Value}, s1.heap.Ns b m → (hidT s1.heap H).Ns b m := fun {b m} ⟨o, es, ep, e, d, r⟩ => ⟨o, es, ep, hidT_get e (dicts e d), d, r⟩
    have inB : K.In (hidT s1.heap H) := fun b o e => hidT_get (KX b o e) (by
      by_cases z : H b = none
      · exact z
      · rcases hA b z with hb | hb
        · subst hb
          have q := hK z
          rw [e] at q
          cases q
        · rw [nT b hb] at e
          cases e)
    have hM : Mod K mg (hidT s1.heap H) := ⟨inB, ns' hns, ⟨mb, ns' hb, hbb⟩, by obtain ⟨mc, h1, h2⟩ := hlim; exact ⟨mc, ns' h1, h2⟩⟩
    have e0 : Env0 P w K mg (hidT s1.heap H) callerA [] s1 H := ⟨rfl, hM, fun b o e => of_hidT e, Nat.le_of_eq (hidT_size _ _), trivial, fun b z => (by cases z), hok, .of_eq hg⟩
    apply codeAny_mono ((G _ inB (ns' hns)).go callerA [] s1 H ⟨[.ref a], []⟩ [.ref a] [.ref a] _ _ ⟨hr, rfl⟩ e0 (hbind (.ref a)) (.cons rfl .nil) (hsp H hO hH hS))
    intro r s' h
    match r, h with
    | .error e, h => exact (hCX H e s' h).elim
    | .ok (.ret u), h =>
      obtain ⟨v, H', os, bare, un, hok', r', q⟩ := h
      obtain rfl : v = V.bl true := q
      obtain rfl : u = Value.bool true := r'
      have grown : ∀ b ∈ ts, ∃ more : Array Value, s'.heap.get? b = some { cls := .none, data := .fields more } := fun b hb => by
        obtain ⟨more, z⟩ := un.tbls b #[] (hH b hb)
        exact ⟨_, hok' b _ z⟩
      have kept : ∀ b o, b ∉ ts → s1.heap.get? b = some o → s'.heap.get? b = some o := fun b o nb e => by
        cases q : H b with
        | none => exact un.keep b o e q (by simp [frs]) (by simp)
        | some u =>
          rcases hO b with z | z | ⟨ob, xs, z⟩
          · cases q.symm.trans z
          · exact absurd z nb
          · have k1 := (hok b _ z).1
            have k2 := (hok' b _ (un.frzs b ob _ z)).1
            cases e.symm.trans k1
            exact k2
      refine ⟨rfl, ⟨fun b o e => ?_, fun b o e => ?_⟩, os, bare⟩
      · by_cases hb : b ∈ ts
        · obtain ⟨c, tc⟩ := hT b hb
          obtain ⟨more, hm⟩ := grown b hb
          cases (gT b hb).symm.trans e
          exact .inr (.inl ⟨tc.isCodeTable, rfl, #[], more, rfl, by rw [hm, Array.empty_append]⟩)
        · exact .inl (kept b o hb e)
      · by_cases hb : b ∈ ts
        · obtain ⟨more, hm⟩ := grown b hb
          exact ⟨_, hm⟩
        · exact ⟨o, kept b o hb e⟩
  let H0 : Hp := fun b => if b ∈ ts then some (.tbl #[]) else none
  have h0 : ∀ {b : Addr}, b ∈ ts → H0 b = some (.tbl #[]) := fun {b} q => if_pos q
  have h1 : ∀ {b : Addr}, b ∉ ts → H0 b = none := fun {b} q => if_neg q
  cases hk : K.lookup a with
  | some o =>
    cases ha.symm.trans (KX a o hk)
    refine core H0 (fun b => ?_) (fun b q => h0 q) (.inr ⟨_, vs.toArray, _, hk, rfl, rfl, rfl, ?_, by simpa using rv⟩) (fun b u z => ?_) (fun b z => ?_) fun z => absurd (h1 aT) z
    · by_cases q : b ∈ ts
      · exact .inr (.inl q)
      · exact .inl (h1 q)
    · rw [List.size_toArray, lenV]
      exact hl
    · by_cases q : b ∈ ts
      · cases (h0 q).symm.trans z
        exact gT b q
      · cases (h1 q).symm.trans z
    · by_cases q : b ∈ ts
      · exact .inr q
      · exact absurd (h1 q) z
  | none =>
    refine core (fun b => if b = a then some (.frz { cls := .type "list", data := .seq vs.toArray } (.lst (ns.map V.int))) else H0 b) (fun b => ?_) (fun b q => ?_) ?_ (fun b u z => ?_) (fun b z => ?_) fun _ => hk
    · by_cases nb : b = a
      · right; right; exact ⟨_, _, if_pos nb⟩
      · by_cases q : b ∈ ts
        · exact .inr (.inl q)
        · left; exact (if_neg nb).trans (h1 q)
    · exact (if_neg (show ¬ b = a from fun z => aT (by rw [← z]; exact q))).trans (h0 q)
    · left; right; exact ⟨{ cls := .type "list", data := .seq vs.toArray }, if_pos rfl⟩
    · by_cases nb : b = a
      · cases (if_pos nb).symm.trans z
        subst nb
        exact ⟨ha, by rw [List.length_map]; exact hl, vs, _, rv, ha⟩
      · have z := (if_neg nb).symm.trans z
        by_cases q : b ∈ ts
        · cases (h0 q).symm.trans z
          exact gT b q
        · cases (h1 q).symm.trans z
    · by_cases nb : b = a
      · exact .inl nb
      · by_cases q : b ∈ ts
        · exact .inr q
        · exact absurd ((if_neg nb).trans (h1 q)) z
/-- the script as data -/
def scrD (ns : List Int) : D := .scr (ns.map D.int)
theorem scr_rep {K : PySem.W.Frag} {F : Hp} : ∀ ns : List Int, RepL K F (ns.map D.int) (ns.map V.int)
  | [] => .nil
  | n :: ns => .cons (.int n) (scr_rep ns)
end L2.G

namespace L2.G
open PySem PySem.Spec PyProof.Rows

section
variable {X : Cx} {tg a b c e : Expr} {fa fb fc fe : dE} {fr : dA} {p pos : Pos}
/-! a list or a tuple that is walked -/
def iS (fe : dE) : dI := fun ρ T k => fe ρ T fun d T1 => match d with | .lst xs => xs.length ≤ 1000000 ∧ k xs T1 | .tup xs => xs.length ≤ 1000000 ∧ k xs T1 | _ => False
theorem i_seq (he : PEd X e fe) : PId X tg e (iS fe) := by
  constructor
  rintro pins s σ H R I ⟨ρ, T, t, F, k, w, h, f⟩
  have key := he.run pins s σ H (fun x H1 => (∃ a xs, x = .ref a ∧ SqL X.K H1 a xs ∧ R (Itl X.K a) H1) ∨ ∃ a xs, x = .ref a ∧ SqT X.K H1 a xs ∧ R (Itt X.K a) H1) I ⟨ρ, T, t, F, _, w, h, fun v H1 F1 d T1 w1 g1 r1 h1 => by
    split at h1
    · obtain ⟨a, vs, rfl, hq, hr⟩ := rep_lst r1
      exact .inl ⟨a, vs, rfl, .of (w1.sub _ _ hq), f _ _ _ _ _ w1 g1 (src_list hq hr) h1.1 h1.2⟩
    · obtain ⟨a, vs, rfl, hq, hr⟩ := rep_tup r1
      exact .inr ⟨a, vs, rfl, same_t w1.sub hq, f _ _ _ _ _ w1 g1 (src_tup hq hr) h1.1 h1.2⟩
    · exact h1.elim⟩
  refine thn key fun v s1 ⟨x, H1, I1, r1, q1⟩ => ?_
  have fr : ∀ b ∈ [s1.heap.objs.size], FpOk X pins H1 b := fun b hb => by
    rw [List.mem_singleton.mp hb]
    exact I1.fpOk (Nat.le_refl _) (I1.hok.fresh (Nat.le_refl _))
  rcases q1 with ⟨a, xs, rfl, hq, q⟩ | ⟨a, xs, rfl, hq, q⟩
  · obtain rfl : v = Value.ref a := r1
    obtain ⟨its, _, pl, _⟩ := I1.list hq
    apply wpAny_pyIter_list pl.isList
    exact ⟨s1.heap.objs.size, _, _, _, H1, rfl, I1.kept (t' := s1.toks) fun b o z => Heap.get?_push_of_some _ z, turn_list a _, ⟨_, Heap.get?_push_size _ rfl, rfl, rfl⟩, fr, q⟩
  · obtain rfl : v = Value.ref a := r1
    obtain ⟨its, _, pl, _⟩ := I1.tuple hq
    apply wpAny_pyIter_tuple pl
    exact ⟨s1.heap.objs.size, _, _, _, H1, rfl, I1.kept (t' := s1.toks) fun b o z => Heap.get?_push_of_some _ z, turn_tuple a _, ⟨_, Heap.get?_push_size _ rfl, rfl, rfl⟩, fr, q⟩

/-! +, *, ==, != of any kind -/
def oAdd : Op2 := fun x y k => match x, y with
  | .int i, .int j => k (.int (i + j))
  | .lst xs, .lst ys => xs.length + ys.length ≤ 1000000 ∧ k (.lst (xs ++ ys))
  | .tup xs, .tup ys => xs.length + ys.length ≤ 1000000 ∧ k (.tup (xs ++ ys))
  | .str s, .str u => s.length + u.length ≤ 1000000 ∧ k (.str (s ++ u))
  | _, _ => False
theorem oAdd_ok {K : PySem.W.Frag} : OpS K (fun x y H Q => (rI0 (fun i j => .int (i + j))) x y H Q ∨ ((rCat x y H Q ∨ rCatA K x y H Q) ∨ ∃ i j, x = .str i ∧ y = .str j ∧ i.length + j.length ≤ sizeLine ∧ Q (.str (i ++ j)) H)) oAdd := by
  intro t F H T x y v w k Q wt r1 r2 q f
  unfold oAdd at q
  split at q
  · exact .inl (oI_ok wt r1 r2 q f)
  · exact .inr (oCat_ok wt r1 r2 q f)
  · exact .inr (oCat_ok wt r1 r2 q f)
  · exact .inr (oCat_ok wt r1 r2 q f)
  · exact q.elim
theorem d_plus (ha : PEd X a fa) (hb : PEd X b fb) : PEd X (.BinOp a .Add b pos) (dOp oAdd fa fb) := d_op (op_add.or ((op_cat.or op_catA).or op_add_str)) oAdd_ok ha hb
def repD (xs : List D) (n : Nat) : List D := (List.replicate n xs).flatten
theorem rep_flat {K : PySem.W.Frag} {F : Hp} {ds : List D} {vs : List V} (r : RepL K F ds vs) : ∀ n : Nat, RepL K F (repD ds n) (List.replicate n vs).flatten
  | 0 => .nil
  | n + 1 => by
    show RepL K F ((List.replicate (n + 1) ds).flatten) _
    rw [List.replicate_succ, List.flatten_cons, List.replicate_succ, List.flatten_cons]
    exact r.app (rep_flat r n)
def oMul : Op2 := fun x y k => match x, y with
  | .int i, .int j => MulOk i j ∧ k (.int (i * j))
  | .lst xs, .int n => (-(2 ^ 63) ≤ n ∧ n < 2 ^ 63 ∧ xs.length * n.toNat ≤ 1000000) ∧ k (.lst (repD xs n.toNat))
  | _, _ => False
theorem oMul_ok {K : PySem.W.Frag} : OpS K (fun x y H Q => (rI MulOk (fun i j => .int (i * j))) x y H Q ∨ rRep x y H Q) oMul := by
  intro t F H T x y v w k Q wt r1 r2 q f
  unfold oMul at q
  split at q
  · exact .inl (oIC_ok wt r1 r2 q f)
  · obtain ⟨a, vs, rfl, h1, r1⟩ := rep_lst r1
    cases r2
    exact .inr ⟨a, _, vs, rfl, rfl, wt.sub _ _ h1, q.1.1, q.1.2.1, by rw [← r1.len]; exact small_line q.1.2.2, fun p hp => f.lst wt (rep_flat r1 _) hp q.2⟩
  · exact q.elim
theorem d_times (ha : PEd X a fa) (hb : PEd X b fb) : PEd X (.BinOp a .Mult b pos) (dOp oMul fa fb) := d_op (op_mulQ.or op_rep) oMul_ok ha hb
def oEqU : Op2 := fun x y k => match x, y with
  | .int i, .int j => k (.bl (decide (i = j)))
  | .str i, .str j => k (.bl (decide (i = j)))
  | .bl i, .bl j => k (.bl (decide (i = j)))
  | x, y => x.eqOk ∧ y.eqOk ∧ k (.bl (eqD x y))
def oNeU : Op2 := fun x y k => match x, y with
  | .int i, .int j => k (.bl (!decide (i = j)))
  | .str i, .str j => k (.bl (!decide (i = j)))
  | .bl i, .bl j => k (.bl (!decide (i = j)))
  | x, y => x.eqOk ∧ y.eqOk ∧ k (.bl (!eqD x y))
theorem oEqU_ok {K : PySem.W.Frag} : OpS K (fun x y H Q => rEq x y H Q ∨ rEqD K x y H Q) oEqU := by
  intro t F H T x y v w k Q wt r1 r2 q f
  unfold oEqU at q
  split at q
  · exact .inl (oEqI_ok wt r1 r2 q f)
  · exact .inl (oEqI_ok wt r1 r2 q f)
  · exact .inl (oEqI_ok wt r1 r2 q f)
  · exact .inr (oEq_ok wt r1 r2 q f)
theorem oNeU_ok {K : PySem.W.Frag} : OpS K (fun x y H Q => rNe x y H Q ∨ rNeD K x y H Q) oNeU := by
  intro t F H T x y v w k Q wt r1 r2 q f
  unfold oNeU at q
  split at q
  · exact .inl (oNeI_ok wt r1 r2 q f)
  · exact .inl (oNeI_ok wt r1 r2 q f)
  · exact .inl (oNeI_ok wt r1 r2 q f)
  · exact .inr (oNe_ok wt r1 r2 q f)
theorem room66 {n : Nat} {A : Around} (r : Room n A) : A.units + 66 < cLine := by have := r.un; omega
variable {n : Nat}
/-- a constant of the module -/
def GC (K : PySem.W.Frag) (mg : Str → Option Value) (x : Str) (d : D) : Prop := ∃ v u, mg x = some u ∧ RelV v u ∧ ∀ F, Rep K F d v
theorem d_gc {x : Str} {d : D} (h : GC X.K X.mg x d) (hg : Gl X x := by rfl) (hd : (x == ("__debug__" : Str)) = false := by decide) : PEd X (.Name x pos) (dC d) := by
  obtain ⟨v, u, h1, h2, h3⟩ := h
  exact d_glob hg h1 h2 h3 hd
mutual
inductive GRep (K : PySem.W.Frag) : D → Value → Prop
  | int (i : Int) (t : Tok) : GRep K (.int i) (.int i t)
  | str (i : Str) (t : Tok) : GRep K (.str i) (.str i t)
  | bl (b : Bool) : GRep K (.bl b) (.bool b)
  | non : GRep K .non .none
  | tup {a : Addr} {dd : Option Addr} {its : Array Value} {n : Nat} {sl : Array (Option Value)} {ds : List D} : K.lookup a = some ⟨.type "tuple", dd, .seq its n, sl⟩ → GRepL K ds its.toList → its.size ≤ 1000000 → GRep K (.tup ds) (.ref a)
inductive GRepL (K : PySem.W.Frag) : List D → List Value → Prop
  | nil : GRepL K [] []
  | cons {d : D} {u : Value} {ds : List D} {us : List Value} : GRep K d u → GRepL K ds us → GRepL K (d :: ds) (u :: us)
end
mutual
theorem GRep.rep {K : PySem.W.Frag} : ∀ {d : D} {u : Value}, GRep K d u → ∃ v, RelV v u ∧ ∀ F, Rep K F d v
  | _, _, .int i t => ⟨.int i, ⟨t, rfl⟩, fun _ => .int i⟩
  | _, _, .str i t => ⟨.str i, ⟨t, rfl⟩, fun _ => .str i⟩
  | _, _, .bl b => ⟨.bl b, rfl, fun _ => .bl b⟩
  | _, _, .non => ⟨.non, rfl, fun _ => .non⟩
  | _, _, .tup (a := a) h q z => by
    obtain ⟨vs, h1, h2⟩ := GRepL.rep q
    exact ⟨.ref a, rfl, fun F => .tup (.inr ⟨_, _, _, h, rfl, rfl, small_line z, h1⟩) (h2 F)⟩
theorem GRepL.rep {K : PySem.W.Frag} : ∀ {ds : List D} {us : List Value}, GRepL K ds us → ∃ vs, Vals vs us ∧ ∀ F, RepL K F ds vs
  | _, _, .nil => ⟨[], .nil, fun _ => .nil⟩
  | _, _, .cons h q => by
    obtain ⟨v, h1, h2⟩ := GRep.rep h
    obtain ⟨vs, h3, h4⟩ := GRepL.rep q
    exact ⟨v :: vs, .cons h1 h3, fun F => .cons (h2 F) (h4 F)⟩
end
theorem gc_of {K : PySem.W.Frag} {mg : Str → Option Value} {h : Heap} {x : Str} {d : D} {u : Value} (X : K.In h) (G : h.Ns mainGlobals mg) (a : PySem.W.nsIn K mainGlobals x = some (some u)) (r : GRep K d u) : GC K mg x d := by
  obtain ⟨v, h1, h2⟩ := r.rep
  exact ⟨v, u, PySem.W.mg_of X G a, h1, h2⟩
/-- three at once -/
def sPar3 (i j l : Nat) (fr : dA) : dS := fun k ρ T => fr ρ T fun as T1 => match as with | [.val d, .val e, .val f] => k.nx (((ρ.set i (some (.val d))).set j (some (.val e))).set l (some (.val f))) T1 | _ => False
end
end L2.G

namespace L2.G
open PySem PySem.Spec PyProof.Rows
theorem ixN_lit (l n : Nat) : ixN l (no_index (OfNat.ofNat n) : Int) = if n < l then some n else none := by
  have e : (no_index (OfNat.ofNat n) : Int) = (n : Int) := rfl
  rw [e]
  unfold ixN
  rw [if_pos (Int.natCast_nonneg n)]
  by_cases h : n < l
  · rw [if_pos h, if_pos (by omega)]; rfl
  · rw [if_neg h, if_neg (by omega)]
theorem atI_lit {α : Type} (xs : List α) (n : Nat) : atI xs (no_index (OfNat.ofNat n) : Int) = xs[n]? := by
  unfold atI
  rw [ixN_lit]
  by_cases h : n < xs.length
  · rw [if_pos h]; rfl
  · rw [if_neg h]; exact (List.getElem?_eq_none (by omega)).symm
theorem atI_nat' {α : Type} (xs : List α) (n : Nat) : atI xs (n : Int) = xs[n]? := atI_lit xs n
theorem atI_m1 {α : Type} (xs : List α) : atI xs (-1) = xs[xs.length - 1]? := by
  unfold atI ixN
  rw [if_neg (by decide)]
  by_cases h : xs = []
  · subst h; rfl
  · have : 0 < xs.length := List.length_pos_iff.mpr h
    rw [if_pos (by omega)]
    show xs[((-1 : Int) + xs.length).toNat]? = _
    congr 1
    omega
/-- sizes -/
def Sz (n : Nat) (i : Int) : Prop := i.natAbs < 2 ^ n
theorem Sz.mono {m n : Nat} {i : Int} (h : Sz m i) (l : m ≤ n) : Sz n i := Nat.lt_of_lt_of_le h (Nat.pow_le_pow_right (by decide) l)
theorem Sz.add {m n : Nat} {i j : Int} (h : Sz m i) (q : Sz n j) : Sz (max m n + 1) (i + j) := by
  have h1 := h.mono (Nat.le_max_left m n)
  have h2 := q.mono (Nat.le_max_right m n)
  unfold Sz at *
  rw [Nat.pow_succ]
  omega
theorem Sz.sub {m n : Nat} {i j : Int} (h : Sz m i) (q : Sz n j) : Sz (max m n + 1) (i - j) := by
  have h1 := h.mono (Nat.le_max_left m n)
  have h2 := q.mono (Nat.le_max_right m n)
  unfold Sz at *
  rw [Nat.pow_succ]
  omega
theorem Sz.neg {m : Nat} {i : Int} (h : Sz m i) : Sz m (-i) := by unfold Sz at *; omega
theorem Sz.mul {m n : Nat} {i j : Int} (h : Sz m i) (q : Sz n j) : Sz (m + n) (i * j) := wide_lt h q
theorem Sz.mulOk {m n : Nat} {i j : Int} (h : Sz m i) (q : Sz n j) (l : m ≤ 400000) (l' : n ≤ 400000) : MulOk i j := .inr ⟨h.mono l, q.mono l'⟩
theorem Sz.divOk {n : Nat} {i j : Int} (q : Sz n j) (l : n ≤ 9000) (h : 0 < j) : DivOk i j := ⟨h, q.mono l⟩
theorem Sz.small {i : Int} (h : i.natAbs < 2 ^ 64) : Sz 64 i := h
theorem Sz.ediv {m : Nat} {i j : Int} (h : Sz m i) : Sz m (i / j) := by
  unfold Sz at *
  exact Nat.lt_of_le_of_lt (Int.natAbs_ediv_le_natAbs i j) h
theorem sIx_lit (n d k : Nat) : HT.sIx n d (some (no_index (OfNat.ofNat k) : Int)) = min k n := HT.sIx_nat n d k
theorem cut_none {xs : List D} : cutD xs none none = xs := by
  unfold cutD
  simp [HT.sIx_none]
theorem cut_to {xs : List D} (k : Nat) : cutD xs none (some (no_index (OfNat.ofNat k) : Int)) = xs.take k := by
  unfold cutD
  rw [sIx_lit, HT.sIx_none, List.drop_zero, Nat.sub_zero]
  by_cases h : k ≤ xs.length
  · rw [Nat.min_eq_left h]
  · rw [Nat.min_eq_right (by omega), List.take_length, List.take_of_length_le (by omega)]
theorem cut_from {xs : List D} (k : Nat) : cutD xs (some (no_index (OfNat.ofNat k) : Int)) none = xs.drop k := by
  unfold cutD
  rw [sIx_lit, HT.sIx_none]
  by_cases h : k ≤ xs.length
  · rw [Nat.min_eq_left h, List.take_of_length_le (by simp)]
  · rw [Nat.min_eq_right (by omega), Nat.sub_self, List.take_zero, List.drop_eq_nil_of_le (by omega)]
theorem cut_fromto {xs : List D} (j k : Nat) : cutD xs (some (no_index (OfNat.ofNat j) : Int)) (some (no_index (OfNat.ofNat k) : Int)) = (xs.take k).drop j := by
  unfold cutD
  rw [sIx_lit, sIx_lit, List.drop_take]
  by_cases h : j ≤ xs.length
  · rw [Nat.min_eq_left h]
    by_cases h2 : k ≤ xs.length
    · rw [Nat.min_eq_left h2]
    · rw [Nat.min_eq_right (by omega), List.take_of_length_le (by simp), List.take_of_length_le (by simp; omega)]
  · rw [Nat.min_eq_right (show xs.length ≤ j by omega), List.drop_eq_nil_of_le (show xs.length ≤ xs.length from Nat.le_refl _), List.drop_eq_nil_of_le (show xs.length ≤ j by omega), List.take_nil, List.take_nil]
end L2.G

namespace L2.G
open PySem PySem.Spec PyProof.Rows
/-! the same operations as functions of data: what must hold, and the value -/
abbrev PD := Option (Prop × D)
def oF (f : D → D → PD) : Op2 := fun x y k => match f x y with | some p => p.1 ∧ k p.2 | none => False
def oG (f : List D → PD) (ds : List D) (k : D → Prop) : Prop := match f ds with | some p => p.1 ∧ k p.2 | none => False
theorem OpS.imp {K : PySem.W.Frag} {r : R2} {o o' : Op2} (h : OpS K r o) (i : ∀ x y k, o' x y k → o x y k) : OpS K r o' := fun w r1 r2 q f => h w r1 r2 (i _ _ _ q) f
theorem BltS.imp {K : PySem.W.Frag} {r : List V → Hp → VK → Prop} {o o' : List D → (D → Prop) → Prop} (h : BltS K r o) (i : ∀ ds k, o' ds k → o ds k) : BltS K r o' := fun w r1 q f => h w r1 (i _ _ q) f
def fAdd : D → D → PD
  | .int i, .int j => some (True, .int (i + j))
  | .lst xs, .lst ys => some (xs.length + ys.length ≤ 1000000, .lst (xs ++ ys))
  | .tup xs, .tup ys => some (xs.length + ys.length ≤ 1000000, .tup (xs ++ ys))
  | .str s, .str u => some (s.length + u.length ≤ 1000000, .str (s ++ u))
  | _, _ => none
def fSub : D → D → PD
  | .int i, .int j => some (True, .int (i - j))
  | .bl b, .bl c => some (True, .int (b2i b - b2i c))
  | _, _ => none
def rSubB (x y : V) (H : Hp) (Q : VK) : Prop := ∃ b c : Bool, x = .bl b ∧ y = .bl c ∧ Q (.int (b2i b - b2i c)) H
theorem op_subB {X : Cx} : OpR X (binaryOp .Sub) rSubB := by
  intro pins s σ H x y v u Q I rx ry h
  obtain ⟨b, c, rfl, rfl, q⟩ := h
  cases rx
  cases ry
  exact PyProof.Rows.sub_bool ⟨.int (b2i b - b2i c), H, I.tok _, ⟨_, rfl⟩, q⟩
def oSubB : Op2 := fun x y k => match x, y with
  | .int i, .int j => k (.int (i - j))
  | .bl b, .bl c => k (.int (b2i b - b2i c))
  | _, _ => False
theorem oSubB_ok {K : PySem.W.Frag} : OpS K (fun x y H Q => (rI0 (fun i j => .int (i - j))) x y H Q ∨ rSubB x y H Q) oSubB := by
  intro t F H T x y v w k Q wt r1 r2 q f
  unfold oSubB at q
  split at q
  · exact .inl (oI_ok wt r1 r2 q f)
  · cases r1
    cases r2
    exact .inr ⟨_, _, rfl, rfl, f.val wt (.int _) q⟩
  · exact q.elim
def fMul : D → D → PD
  | .int i, .int j => some (MulOk i j, .int (i * j))
  | .lst xs, .int n => some (-(2 ^ 63) ≤ n ∧ n < 2 ^ 63 ∧ xs.length * n.toNat ≤ 1000000, .lst (repD xs n.toNat))
  | _, _ => none
def fDiv : D → D → PD | .int i, .int j => some (DivOk i j, .int (i / j)) | _, _ => none
def fMod : D → D → PD | .int i, .int j => some (0 < j, .int (i % j)) | _, _ => none
def fPow : D → D → PD | .int i, .int j => some (CPow i j, .int (i ^ j.toNat)) | _, _ => none
def fShl : D → D → PD | .int i, .int j => some (CPow i j, .int (i * 2 ^ j.toNat)) | _, _ => none
def fLt : D → D → PD | .int i, .int j => some (True, .bl (decide (i < j))) | _, _ => none
def fLe : D → D → PD | .int i, .int j => some (True, .bl (decide (i ≤ j))) | _, _ => none
def fGt : D → D → PD | .int i, .int j => some (True, .bl (decide (j < i))) | _, _ => none
def fGe : D → D → PD | .int i, .int j => some (True, .bl (decide (j ≤ i))) | _, _ => none
def fEq (x y : D) : PD := match x, y with
  | .int i, .int j => some (True, .bl (decide (i = j)))
  | .str i, .str j => some (True, .bl (decide (i = j)))
  | .bl i, .bl j => some (True, .bl (decide (i = j)))
  | x, y => some (x.eqOk ∧ y.eqOk, .bl (eqD x y))
def fNe (x y : D) : PD := match x, y with
  | .int i, .int j => some (True, .bl (!decide (i = j)))
  | .str i, .str j => some (True, .bl (!decide (i = j)))
  | .bl i, .bl j => some (True, .bl (!decide (i = j)))
  | x, y => some (x.eqOk ∧ y.eqOk, .bl (!eqD x y))
theorem fEq_int {i j : Int} : fEq (.int i) (.int j) = some (True, .bl (decide (i = j))) := rfl
theorem fEq_str {i j : Str} : fEq (.str i) (.str j) = some (True, .bl (decide (i = j))) := rfl
theorem fEq_bl {i j : Bool} : fEq (.bl i) (.bl j) = some (True, .bl (decide (i = j))) := rfl
theorem fEq_tup {x y : List D} : fEq (.tup x) (.tup y) = some ((D.tup x).eqOk ∧ (D.tup y).eqOk, .bl (eqD (.tup x) (.tup y))) := rfl
theorem fEq_lst {x y : List D} : fEq (.lst x) (.lst y) = some ((D.lst x).eqOk ∧ (D.lst y).eqOk, .bl (eqD (.lst x) (.lst y))) := rfl
theorem fEq_tn {x : List D} : fEq (.tup x) .non = some ((D.tup x).eqOk ∧ D.non.eqOk, .bl (eqD (.tup x) .non)) := rfl
theorem fEq_nt {x : List D} : fEq .non (.tup x) = some (D.non.eqOk ∧ (D.tup x).eqOk, .bl (eqD .non (.tup x))) := rfl
theorem fEq_nn : fEq .non .non = some (D.non.eqOk ∧ D.non.eqOk, .bl (eqD .non .non)) := rfl
theorem fNe_int {i j : Int} : fNe (.int i) (.int j) = some (True, .bl (!decide (i = j))) := rfl
theorem fNe_str {i j : Str} : fNe (.str i) (.str j) = some (True, .bl (!decide (i = j))) := rfl
theorem fNe_bl {i j : Bool} : fNe (.bl i) (.bl j) = some (True, .bl (!decide (i = j))) := rfl
theorem fNe_tup {x y : List D} : fNe (.tup x) (.tup y) = some ((D.tup x).eqOk ∧ (D.tup y).eqOk, .bl (!eqD (.tup x) (.tup y))) := rfl
theorem fNe_lst {x y : List D} : fNe (.lst x) (.lst y) = some ((D.lst x).eqOk ∧ (D.lst y).eqOk, .bl (!eqD (.lst x) (.lst y))) := rfl
theorem fNe_tn {x : List D} : fNe (.tup x) .non = some ((D.tup x).eqOk ∧ D.non.eqOk, .bl (!eqD (.tup x) .non)) := rfl
theorem fNe_nt {x : List D} : fNe .non (.tup x) = some (D.non.eqOk ∧ (D.tup x).eqOk, .bl (!eqD .non (.tup x))) := rfl
theorem fNe_nn : fNe .non .non = some (D.non.eqOk ∧ D.non.eqOk, .bl (!eqD .non .non)) := rfl
def fIn (x y : D) : PD := match y with | .lst ys => some (x.eqOk ∧ D.eqOk (.lst ys), .bl (ys.any fun z => eqD z x)) | _ => none
def fNotIn (x y : D) : PD := match y with | .lst ys => some (x.eqOk ∧ D.eqOk (.lst ys), .bl (!ys.any fun z => eqD z x)) | _ => none
def D.seq? : D → Option (List D) | .tup xs => some xs | .lst xs => some xs | .scr xs => some xs | _ => none
def fIx (x y : D) : PD := match y with | .int i => (match x.seq? with | some xs => (match atI xs i with | some d => some (True, d) | none => none) | none => none) | _ => none
theorem fAdd_ok {x y : D} {k : D → Prop} (h : oF fAdd x y k) : oAdd x y k := by cases x <;> cases y <;> first | exact h.elim | (obtain ⟨h1, h2⟩ := h; first | exact h2 | exact ⟨h1, h2⟩)
theorem fSub_ok {x y : D} {k : D → Prop} (h : oF fSub x y k) : oSubB x y k := by cases x <;> cases y <;> first | exact h.elim | exact h.2
theorem fMul_ok {x y : D} {k : D → Prop} (h : oF fMul x y k) : oMul x y k := by cases x <;> cases y <;> first | exact h.elim | exact h
theorem fDiv_ok {x y : D} {k : D → Prop} (h : oF fDiv x y k) : oIC DivOk (fun i j => i / j) x y k := by cases x <;> cases y <;> first | exact h.elim | exact h
theorem fMod_ok {x y : D} {k : D → Prop} (h : oF fMod x y k) : oIC (fun _ j => 0 < j) (fun i j => i % j) x y k := by cases x <;> cases y <;> first | exact h.elim | exact h
theorem fPow_ok {x y : D} {k : D → Prop} (h : oF fPow x y k) : oIC CPow (fun i j => i ^ j.toNat) x y k := by cases x <;> cases y <;> first | exact h.elim | exact h
theorem fLt_ok {x y : D} {k : D → Prop} (h : oF fLt x y k) : oB (fun i j => decide (i < j)) x y k := by cases x <;> cases y <;> first | exact h.elim | exact h.2
theorem fGt_ok {x y : D} {k : D → Prop} (h : oF fGt x y k) : oB (fun i j => decide (j < i)) x y k := by cases x <;> cases y <;> first | exact h.elim | exact h.2
theorem fGe_ok {x y : D} {k : D → Prop} (h : oF fGe x y k) : oB (fun i j => decide (j ≤ i)) x y k := by cases x <;> cases y <;> first | exact h.elim | exact h.2
theorem fEq_ok {x y : D} {k : D → Prop} (h : oF fEq x y k) : oEqU x y k := by cases x <;> cases y <;> first | exact h.2 | exact ⟨h.1.1, h.1.2, h.2⟩
theorem fNe_ok {x y : D} {k : D → Prop} (h : oF fNe x y k) : oNeU x y k := by cases x <;> cases y <;> first | exact h.2 | exact ⟨h.1.1, h.1.2, h.2⟩
theorem fIx_ok {x y : D} {k : D → Prop} (h : oF fIx x y k) : oIx x y k := by
  cases y <;> first | exact h.elim | skip
  rename_i i
  cases x <;> first | exact h.elim | skip
  all_goals
    rename_i xs
    unfold oF fIx D.seq? at h
    unfold oIx
    simp only at h ⊢
    cases e : atI xs i with
    | none => rw [e] at h; exact h.elim
    | some d => rw [e] at h; exact h.2
section
variable {X : Cx} {a b e : Expr} {fa fb fe : dE} {fr : dA} {p pos : Pos} {n : Nat} {es : List Expr} {tg : Expr}
theorem f_add (ha : PEd X a fa) (hb : PEd X b fb) : PEd X (.BinOp a .Add b pos) (dOp (oF fAdd) fa fb) := d_op (op_add.or ((op_cat.or op_catA).or op_add_str)) (oAdd_ok.imp fun _ _ _ => fAdd_ok) ha hb
theorem f_sub (ha : PEd X a fa) (hb : PEd X b fb) : PEd X (.BinOp a .Sub b pos) (dOp (oF fSub) fa fb) := d_op (op_sub.or op_subB) (oSubB_ok.imp fun _ _ _ => fSub_ok) ha hb
theorem f_mul (ha : PEd X a fa) (hb : PEd X b fb) : PEd X (.BinOp a .Mult b pos) (dOp (oF fMul) fa fb) := d_op (op_mulQ.or op_rep) (oMul_ok.imp fun _ _ _ => fMul_ok) ha hb
theorem f_div (ha : PEd X a fa) (hb : PEd X b fb) : PEd X (.BinOp a .FloorDiv b pos) (dOp (oF fDiv) fa fb) := d_op op_divQ (oIC_ok.imp fun _ _ _ => fDiv_ok) ha hb
theorem f_mod (ha : PEd X a fa) (hb : PEd X b fb) : PEd X (.BinOp a .Mod b pos) (dOp (oF fMod) fa fb) := d_op op_mod (oIC_ok.imp fun _ _ _ => fMod_ok) ha hb
theorem f_pow (ha : PEd X a fa) (hb : PEd X b fb) : PEd X (.BinOp a .Pow b pos) (dOp (oF fPow) fa fb) := d_op op_pow (oIC_ok.imp fun _ _ _ => fPow_ok) ha hb
theorem f_ix (ha : PEd X a fa) (hb : PEd X b fb) (hs : PlainIx b := by exact fun _ _ => rfl) : PEd X (.Subscript a b pos) (dOp (oF fIx) fa fb) :=
  pe_imp (pe_ix (ix_list.or ix_tup) ha hb hs) fun σ H Q h => two (o := fun x y T k => oF fIx x y fun d => k d T) (R := fun x y H Q => rIxL X.K x y H Q ∨ rIxT X.K x y H Q) (fun w r1 r2 q f => oIx_ok w r1 r2 (fIx_ok q) f) h
theorem d_fgt (ha : PEd X a fa) (hb : PEd X b fb) : PEd X (.Compare a [.Gt] [b] pos) (dOp (oF fGt) fa fb) := d_cmp op_gt (oB_ok.imp fun _ _ _ => fGt_ok) ha hb (nomark _)
theorem t_flt (ha : PEd X a fa) (hb : PEd X b fb) : PTd X (.Compare a [.Lt] [b] pos) (dTst (dOp (oF fLt) fa fb)) := d_tcmp op_lt (oB_ok.imp fun _ _ _ => fLt_ok) ha hb (nomark _)
theorem t_fgt (ha : PEd X a fa) (hb : PEd X b fb) : PTd X (.Compare a [.Gt] [b] pos) (dTst (dOp (oF fGt) fa fb)) := d_tcmp op_gt (oB_ok.imp fun _ _ _ => fGt_ok) ha hb (nomark _)
theorem t_fge (ha : PEd X a fa) (hb : PEd X b fb) : PTd X (.Compare a [.GtE] [b] pos) (dTst (dOp (oF fGe) fa fb)) := d_tcmp op_ge (oB_ok.imp fun _ _ _ => fGe_ok) ha hb (nomark _)
theorem d_feq (hr : Room n X.A) (ha : PEd X a fa) (hb : PEd X b fb) : PEd X (.Compare a [.Eq] [b] pos) (dOp (oF fEq) fa fb) := d_cmp (op_eq.or (op_eqD (by have := room66 hr; omega))) (oEqU_ok.imp fun _ _ _ => fEq_ok) ha hb (nomark _)
theorem d_fne (hr : Room n X.A) (ha : PEd X a fa) (hb : PEd X b fb) : PEd X (.Compare a [.NotEq] [b] pos) (dOp (oF fNe) fa fb) := d_cmp (op_ne.or (op_neD (by have := room66 hr; omega))) (oNeU_ok.imp fun _ _ _ => fNe_ok) ha hb (nomark _)
theorem t_feq (hr : Room n X.A) (ha : PEd X a fa) (hb : PEd X b fb) : PTd X (.Compare a [.Eq] [b] pos) (dTst (dOp (oF fEq) fa fb)) := d_tcmp (op_eq.or (op_eqD (by have := room66 hr; omega))) (oEqU_ok.imp fun _ _ _ => fEq_ok) ha hb (nomark _)
theorem t_fne (hr : Room n X.A) (ha : PEd X a fa) (hb : PEd X b fb) : PTd X (.Compare a [.NotEq] [b] pos) (dTst (dOp (oF fNe) fa fb)) := d_tcmp (op_ne.or (op_neD (by have := room66 hr; omega))) (oNeU_ok.imp fun _ _ _ => fNe_ok) ha hb (nomark _)
/-! built-ins -/
def fLen : List D → PD | [d] => (match d.seq? with | some xs => some (True, .int xs.length) | none => none) | _ => none
def fI1 (g : Int → Int) : List D → PD | [.int i] => some (True, .int (g i)) | _ => none
def fI2 (g : Int → Int → Int) : List D → PD | [.int i, .int j] => some (True, .int (g i j)) | _ => none
def fInt : List D → PD | [.int i] => some (True, .int i) | [.bl b] => some (True, .int (if b then 1 else 0)) | _ => none
def fSqrt : List D → PD | [.int i] => some (0 ≤ i ∧ i.natAbs < 2 ^ 13000, .int ((Float64.isqrt i.toNat : Nat) : Int)) | _ => none
def fDivmod : List D → PD | [.int i, .int j] => some (DmOk i j, .tup [.int (i / j), .int (i % j)]) | _ => none
def fAll : List D → PD | [.lst xs] => (match bls? xs with | some bs => some (True, .bl (bs.all fun b => b)) | none => none) | _ => none
def fAny : List D → PD | [.lst xs] => (match bls? xs with | some bs => some (True, .bl (bs.any fun b => b)) | none => none) | _ => none
def fSum : List D → PD | [.lst xs] => (match nums? xs with | some bs => some (True, .int bs.sum) | none => none) | _ => none
def fTuple : List D → PD | [.lst xs] => some (True, .tup xs) | [.tup xs] => some (True, .tup xs) | _ => none
def fList : List D → PD | [d] => (match d.seq? with | some xs => some (True, .lst xs) | none => none) | _ => none
def fRepr : List D → PD | [.int i] => some (i.natAbs.log2 < 1920, .str (toString i)) | [.tup xs] => some (D.shOk (.tup xs), .str (D.py (.tup xs)).shown) | [.lst xs] => some (D.shOk (.lst xs), .str (D.py (.lst xs)).shown) | [.bl b] => some (True, .str (if b then "True" else "False")) | [.non] => some (True, .str "None") | _ => none
theorem fLen_ok {ds : List D} {k : D → Prop} (h : oG fLen ds k) : oLen ds k := by
  cases ds with
  | nil => exact h.elim
  | cons d r => cases r with
    | nil => cases d <;> first | exact h.elim | exact h.2
    | cons _ _ => cases d <;> exact h.elim
theorem one_ok {f : List D → PD} {o : List D → (D → Prop) → Prop} (h0 : ∀ k, oG f [] k → o [] k) (h1 : ∀ d k, oG f [d] k → o [d] k) (h2 : ∀ d e r k, oG f (d :: e :: r) k → o (d :: e :: r) k) {ds : List D} {k : D → Prop} (h : oG f ds k) : o ds k := by
  match ds with
  | [] => exact h0 k h
  | [d] => exact h1 d k h
  | d :: e :: r => exact h2 d e r k h
theorem fI1_ok {g : Int → Int} {ds : List D} {k : D → Prop} (h : oG (fI1 g) ds k) : o1 g ds k := by
  refine one_ok (f := fI1 g) (o := o1 g) ?_ ?_ ?_ h
  · intro k h; exact h.elim
  · intro d k h; cases d <;> first | exact h.elim | exact h.2
  · intro d e r k h; cases d <;> exact h.elim
theorem fI2_ok {g : Int → Int → Int} {ds : List D} {k : D → Prop} (h : oG (fI2 g) ds k) : o2 g ds k := by
  refine one_ok (f := fI2 g) (o := o2 g) ?_ ?_ ?_ h
  · intro k h; exact h.elim
  · intro d k h; cases d <;> exact h.elim
  · intro d e r k h
    cases r with
    | nil => cases d <;> cases e <;> first | exact h.elim | exact h.2
    | cons _ _ => cases d <;> cases e <;> exact h.elim
theorem fInt_ok {ds : List D} {k : D → Prop} (h : oG fInt ds k) : oIntB ds k := by
  refine one_ok (f := fInt) (o := oIntB) ?_ ?_ ?_ h
  · intro k h; exact h.elim
  · intro d k h; cases d <;> first | exact h.elim | exact h.2
  · intro d e r k h; cases d <;> exact h.elim
theorem fSqrt_ok {ds : List D} {k : D → Prop} (h : oG fSqrt ds k) : oSqrt ds k := by
  refine one_ok (f := fSqrt) (o := oSqrt) ?_ ?_ ?_ h
  · intro k h; exact h.elim
  · intro d k h; cases d <;> first | exact h.elim | exact h
  · intro d e r k h; cases d <;> exact h.elim
theorem fDivmod_ok {ds : List D} {k : D → Prop} (h : oG fDivmod ds k) : oDivmod ds k := by
  refine one_ok (f := fDivmod) (o := oDivmod) ?_ ?_ ?_ h
  · intro k h; exact h.elim
  · intro d k h; cases d <;> exact h.elim
  · intro d e r k h
    cases r with
    | nil => cases d <;> cases e <;> first | exact h.elim | exact h
    | cons _ _ => cases d <;> cases e <;> exact h.elim
theorem fAll_ok {ds : List D} {k : D → Prop} (h : oG fAll ds k) : oAll ds k := by
  refine one_ok (f := fAll) (o := oAll) ?_ ?_ ?_ h
  · intro k h; exact h.elim
  · intro d k h
    cases d <;> first | exact h.elim | skip
    rename_i xs
    unfold oG fAll at h
    unfold oAll
    simp only at h ⊢
    cases q : bls? xs with
    | none => rw [q] at h; exact h.elim
    | some bs => rw [q] at h; exact h.2
  · intro d e r k h; cases d <;> exact h.elim
theorem fTuple_ok {ds : List D} {k : D → Prop} (h : oG fTuple ds k) : oTuple ds k := by
  refine one_ok (f := fTuple) (o := oTuple) ?_ ?_ ?_ h
  · intro k h; exact h.elim
  · intro d k h; cases d <;> first | exact h.elim | exact h.2
  · intro d e r k h; cases d <;> exact h.elim
theorem fList_ok {ds : List D} {k : D → Prop} (h : oG fList ds k) : oList ds k := by
  refine one_ok (f := fList) (o := oList) ?_ ?_ ?_ h
  · intro k h; exact h.elim
  · intro d k h; cases d <;> first | exact h.elim | exact h.2
  · intro d e r k h; cases d <;> exact h.elim
theorem fRepr_ok {ds : List D} {k : D → Prop} (h : oG fRepr ds k) : oRepr ds k := by
  refine one_ok (f := fRepr) (o := oRepr) ?_ ?_ ?_ h
  · intro k h; exact h.elim
  · intro d k h; cases d <;> first | exact h.elim | exact h | exact h.2
  · intro d e r k h; cases d <;> exact h.elim
theorem g_len (hm : X.mg "len" = none) (ha : PAd X (e :: es) fr) (hg : Gl X "len" := by rfl)
    (he : starEach (e :: es) X.env = (false, eval e X.env) :: starEach es X.env := by rfl) (hp : (backTo pos (starEach es X.env)).any (·.1) = false := by rfl) : PEd X (.Call (.Name "len" p) (e :: es) [] pos) (dBlt (oG fLen) fr) := d_blt call_len_seq (oLen_ok.imp fun _ _ => fLen_ok) hm ha boot_len hg (by decide) (by decide) he hp
abbrev iAbs : Int → Int := fun i => if i < 0 then -i else i
abbrev iMax : Int → Int → Int := fun i j => if j > i then j else i
abbrev iMin : Int → Int → Int := fun i j => if j < i then j else i
abbrev iGcd : Int → Int → Int := fun a b => ((Nat.gcd a.natAbs b.natAbs : Nat) : Int)
theorem boot_abs' : bootBuiltins "abs" = some (.builtin "abs") := by decide +kernel
theorem boot_max' : bootBuiltins "max" = some (.builtin "max") := by decide +kernel
theorem boot_min' : bootBuiltins "min" = some (.builtin "min") := by decide +kernel
theorem boot_int' : bootBuiltins "int" = some (.type "int") := by decide +kernel
theorem boot_divmod' : bootBuiltins "divmod" = some (.builtin "divmod") := by decide +kernel
theorem boot_all' : bootBuiltins "all" = some (.builtin "all") := by decide +kernel
theorem boot_tuple' : bootBuiltins "tuple" = some (.type "tuple") := by decide +kernel
theorem boot_list' : bootBuiltins "list" = some (.type "list") := by decide +kernel
theorem boot_repr' : bootBuiltins "repr" = some (.builtin "repr") := by decide +kernel
theorem g_abs (hm : X.mg "abs" = none) (ha : PAd X (e :: es) fr) (hg : Gl X "abs" := by rfl)
    (he : starEach (e :: es) X.env = (false, eval e X.env) :: starEach es X.env := by rfl) (hp : (backTo pos (starEach es X.env)).any (·.1) = false := by rfl) : PEd X (.Call (.Name "abs" p) (e :: es) [] pos) (dBlt (oG (fI1 iAbs)) fr) := d_blt call_abs (o1_ok.imp fun _ _ => fI1_ok) hm ha boot_abs' hg (by decide) (by decide) he hp
theorem g_max2 (hc : X.calm = true) (hm : X.mg "max" = none) (ha : PAd X (e :: es) fr) (hg : Gl X "max" := by rfl)
    (he : starEach (e :: es) X.env = (false, eval e X.env) :: starEach es X.env := by rfl) (hp : (backTo pos (starEach es X.env)).any (·.1) = false := by rfl) : PEd X (.Call (.Name "max" p) (e :: es) [] pos) (dBlt (oG (fI2 iMax)) fr) := d_blt (call_max2 hc) (o2_ok.imp fun _ _ => fI2_ok) hm ha boot_max' hg (by decide) (by decide) he hp
theorem g_min2 (hc : X.calm = true) (hm : X.mg "min" = none) (ha : PAd X (e :: es) fr) (hg : Gl X "min" := by rfl)
    (he : starEach (e :: es) X.env = (false, eval e X.env) :: starEach es X.env := by rfl) (hp : (backTo pos (starEach es X.env)).any (·.1) = false := by rfl) : PEd X (.Call (.Name "min" p) (e :: es) [] pos) (dBlt (oG (fI2 iMin)) fr) := d_blt (call_min2 hc) (o2_ok.imp fun _ _ => fI2_ok) hm ha boot_min' hg (by decide) (by decide) he hp
theorem g_gcd (hm : X.mg "gcd" = some (.builtin "math.gcd")) (ha : PAd X (e :: es) fr) (hg : Gl X "gcd" := by rfl)
    (he : starEach (e :: es) X.env = (false, eval e X.env) :: starEach es X.env := by rfl) (hp : (backTo pos (starEach es X.env)).any (·.1) = false := by rfl) : PEd X (.Call (.Name "gcd" p) (e :: es) [] pos) (dBlt (oG (fI2 iGcd)) fr) := d_bfun cr_gcd (o2_ok.imp fun _ _ => fI2_ok) hm ha hg (by decide) he hp
theorem g_toint (hm : X.mg "int" = none) (ha : PAd X (e :: es) fr) (hg : Gl X "int" := by rfl)
    (he : starEach (e :: es) X.env = (false, eval e X.env) :: starEach es X.env := by rfl) (hp : (backTo pos (starEach es X.env)).any (·.1) = false := by rfl) : PEd X (.Call (.Name "int" p) (e :: es) [] pos) (dBlt (oG fInt) fr) := d_blty call_int1 (oIntB_ok.imp fun _ _ => fInt_ok) hm ha boot_int' hg (by decide) (by decide) he hp
theorem g_isqrt (hm : X.mg "isqrt" = some (.builtin "math.isqrt")) (ha : PAd X (e :: es) fr) (hg : Gl X "isqrt" := by rfl)
    (he : starEach (e :: es) X.env = (false, eval e X.env) :: starEach es X.env := by rfl) (hp : (backTo pos (starEach es X.env)).any (·.1) = false := by rfl) : PEd X (.Call (.Name "isqrt" p) (e :: es) [] pos) (dBlt (oG fSqrt) fr) := d_bfun cr_isqrt (oSqrt_ok.imp fun _ _ => fSqrt_ok) hm ha hg (by decide) he hp
theorem g_divmod (hm : X.mg "divmod" = none) (ha : PAd X (e :: es) fr) (hg : Gl X "divmod" := by rfl)
    (he : starEach (e :: es) X.env = (false, eval e X.env) :: starEach es X.env := by rfl) (hp : (backTo pos (starEach es X.env)).any (·.1) = false := by rfl) : PEd X (.Call (.Name "divmod" p) (e :: es) [] pos) (dBlt (oG fDivmod) fr) := d_blt call_divmodQ (oDivmod_ok.imp fun _ _ => fDivmod_ok) hm ha boot_divmod' hg (by decide) (by decide) he hp
theorem g_all (hc : X.calm = true) (hm : X.mg "all" = none) (ha : PAd X (e :: es) fr) (hg : Gl X "all" := by rfl)
    (he : starEach (e :: es) X.env = (false, eval e X.env) :: starEach es X.env := by rfl) (hp : (backTo pos (starEach es X.env)).any (·.1) = false := by rfl) : PEd X (.Call (.Name "all" p) (e :: es) [] pos) (dBlt (oG fAll) fr) := d_blt (cr_all hc) (oAll_ok.imp fun _ _ => fAll_ok) hm ha boot_all' hg (by decide) (by decide) he hp
theorem g_totup (hm : X.mg "tuple" = none) (ha : PAd X (e :: es) fr) (hg : Gl X "tuple" := by rfl)
    (he : starEach (e :: es) X.env = (false, eval e X.env) :: starEach es X.env := by rfl) (hp : (backTo pos (starEach es X.env)).any (·.1) = false := by rfl) : PEd X (.Call (.Name "tuple" p) (e :: es) [] pos) (dBlt (oG fTuple) fr) := d_blty call_tuple_of (oTuple_ok.imp fun _ _ => fTuple_ok) hm ha boot_tuple' hg (by decide) (by decide) he hp
theorem g_tolist (hm : X.mg "list" = none) (ha : PAd X (e :: es) fr) (hg : Gl X "list" := by rfl)
    (he : starEach (e :: es) X.env = (false, eval e X.env) :: starEach es X.env := by rfl) (hp : (backTo pos (starEach es X.env)).any (·.1) = false := by rfl) : PEd X (.Call (.Name "list" p) (e :: es) [] pos) (dBlt (oG fList) fr) := d_blty call_list_of (oList_ok.imp fun _ _ => fList_ok) hm ha boot_list' hg (by decide) (by decide) he hp
/-! walks, slices -/
def D.it? : D → Option (List D) | .tup xs => some xs | .lst xs => some xs | _ => none
def iQ (fe : dE) : dI := fun ρ T k => fe ρ T fun d T1 => match d.it? with | some xs => xs.length ≤ 1000000 ∧ k xs T1 | none => False
theorem iQ_eq (fe : dE) : iQ fe = iS fe := by
  funext ρ T k
  unfold iQ iS
  congr 1
  funext d T1
  cases d <;> rfl
theorem g_seq (he : PEd X e fe) : PId X tg e (iQ fe) := by
  rw [iQ_eq]
  exact i_seq he
def D.cut? (d : D) (l h : Option Int) : Option D := match d with | .lst xs => some (.lst (cutD xs l h)) | .scr xs => some (.lst (cutD xs l h)) | .tup xs => some (.tup (cutD xs l h)) | _ => none
def dSlQ (fe : dE) (lo hi : dP) : dE := fun ρ T k => fe ρ T fun x T1 => lo ρ T1 fun l T2 => hi ρ T2 fun h T3 => match x.cut? l h with | some d => k d T3 | none => False
theorem dSlQ_eq (fe : dE) (lo hi : dP) : dSlQ fe lo hi = dSl fe lo hi := by
  funext ρ T k
  unfold dSlQ dSl
  congr 1
  funext x T1
  congr 1
  funext l T2
  congr 1
  funext h T3
  cases x <;> rfl
theorem g_slice {lo hi : Option Expr} {fl fh : dP} {p2 : Pos} (he : PEd X e fe) (hl : POd X lo fl) (hh : POd X hi fh) : PEd X (.Subscript e (.Slice lo hi none p2) pos) (dSlQ fe fl fh) := by
  rw [dSlQ_eq]
  exact d_slice he hl hh
end
end L2.G

namespace L2.G
open PySem PySem.Spec PyProof.Rows
section
variable {i j : Int} {b c : Bool} {s u : Str} {xs ys : List D} {d : D}
theorem fAdd_int : fAdd (.int i) (.int j) = some (True, .int (i + j)) := rfl
theorem fAdd_lst : fAdd (.lst xs) (.lst ys) = some (xs.length + ys.length ≤ 1000000, .lst (xs ++ ys)) := rfl
theorem fAdd_tup : fAdd (.tup xs) (.tup ys) = some (xs.length + ys.length ≤ 1000000, .tup (xs ++ ys)) := rfl
theorem fAdd_str : fAdd (.str s) (.str u) = some (s.length + u.length ≤ 1000000, .str (s ++ u)) := rfl
theorem fSub_int : fSub (.int i) (.int j) = some (True, .int (i - j)) := rfl
theorem fSub_bl : fSub (.bl b) (.bl c) = some (True, .int (b2i b - b2i c)) := rfl
theorem fMul_int : fMul (.int i) (.int j) = some (MulOk i j, .int (i * j)) := rfl
theorem fMul_lst : fMul (.lst xs) (.int i) = some (-(2 ^ 63) ≤ i ∧ i < 2 ^ 63 ∧ xs.length * i.toNat ≤ 1000000, .lst (repD xs i.toNat)) := rfl
theorem fDiv_int : fDiv (.int i) (.int j) = some (DivOk i j, .int (i / j)) := rfl
theorem fMod_int : fMod (.int i) (.int j) = some (0 < j, .int (i % j)) := rfl
theorem fPow_int : fPow (.int i) (.int j) = some (CPow i j, .int (i ^ j.toNat)) := rfl
theorem fShl_int : fShl (.int i) (.int j) = some (CPow i j, .int (i * 2 ^ j.toNat)) := rfl
theorem fLt_int : fLt (.int i) (.int j) = some (True, .bl (decide (i < j))) := rfl
theorem fLe_int : fLe (.int i) (.int j) = some (True, .bl (decide (i ≤ j))) := rfl
theorem fGt_int : fGt (.int i) (.int j) = some (True, .bl (decide (j < i))) := rfl
theorem fGe_int : fGe (.int i) (.int j) = some (True, .bl (decide (j ≤ i))) := rfl
theorem fIn_lst : fIn d (.lst ys) = some (d.eqOk ∧ D.eqOk (.lst ys), .bl (ys.any fun z => eqD z d)) := rfl
theorem fNotIn_lst : fNotIn d (.lst ys) = some (d.eqOk ∧ D.eqOk (.lst ys), .bl (!ys.any fun z => eqD z d)) := rfl
def ixR : Option D → PD | some d => some (True, d) | none => none
theorem ixR_some : ixR (some d) = some (True, d) := rfl
theorem fIx_tup : fIx (.tup xs) (.int i) = ixR (atI xs i) := by show (match atI xs i with | some d => some (True, d) | none => none) = ixR (atI xs i); cases atI xs i <;> rfl
theorem fIx_lst : fIx (.lst xs) (.int i) = ixR (atI xs i) := by show (match atI xs i with | some d => some (True, d) | none => none) = ixR (atI xs i); cases atI xs i <;> rfl
theorem fIx_scr : fIx (.scr xs) (.int i) = ixR (atI xs i) := by show (match atI xs i with | some d => some (True, d) | none => none) = ixR (atI xs i); cases atI xs i <;> rfl
theorem fLen_tup : fLen [.tup xs] = some (True, .int xs.length) := rfl
theorem fLen_lst : fLen [.lst xs] = some (True, .int xs.length) := rfl
theorem fLen_scr : fLen [.scr xs] = some (True, .int xs.length) := rfl
theorem fI1_int {g : Int → Int} : fI1 g [.int i] = some (True, .int (g i)) := rfl
theorem fI2_int {g : Int → Int → Int} : fI2 g [.int i, .int j] = some (True, .int (g i j)) := rfl
theorem fInt_int : fInt [.int i] = some (True, .int i) := rfl
theorem fInt_bl : fInt [.bl b] = some (True, .int (if b then 1 else 0)) := rfl
theorem fDivmod_int : fDivmod [.int i, .int j] = some (DmOk i j, .tup [.int (i / j), .int (i % j)]) := rfl
def blR (f : List Bool → Bool) : Option (List Bool) → PD | some bs => some (True, .bl (f bs)) | none => none
theorem blR_some {f : List Bool → Bool} {bs : List Bool} : blR f (some bs) = some (True, .bl (f bs)) := rfl
theorem fAll_lst : fAll [.lst xs] = blR (fun bs => bs.all fun b => b) (bls? xs) := by show (match bls? xs with | some bs => some (True, D.bl (bs.all fun b => b)) | none => none) = blR (fun bs => bs.all fun b => b) (bls? xs); cases bls? xs <;> rfl
theorem fAny_lst : fAny [.lst xs] = blR (fun bs => bs.any fun b => b) (bls? xs) := by show (match bls? xs with | some bs => some (True, D.bl (bs.any fun b => b)) | none => none) = blR (fun bs => bs.any fun b => b) (bls? xs); cases bls? xs <;> rfl
def nuR : Option (List Int) → PD | some bs => some (True, .int bs.sum) | none => none
theorem nuR_some {bs : List Int} : nuR (some bs) = some (True, .int bs.sum) := rfl
theorem fSum_lst : fSum [.lst xs] = nuR (nums? xs) := by show (match nums? xs with | some bs => some (True, D.int bs.sum) | none => none) = nuR (nums? xs); cases nums? xs <;> rfl
theorem fTuple_lst : fTuple [.lst xs] = some (True, .tup xs) := rfl
theorem fTuple_tup : fTuple [.tup xs] = some (True, .tup xs) := rfl
theorem fList_lst : fList [.lst xs] = some (True, .lst xs) := rfl
theorem fList_tup : fList [.tup xs] = some (True, .lst xs) := rfl
theorem fList_scr : fList [.scr xs] = some (True, .lst xs) := rfl
theorem fRepr_int : fRepr [.int i] = some (i.natAbs.log2 < 1920, .str (toString i)) := rfl
theorem fRepr_tup : fRepr [.tup xs] = some (D.shOk (.tup xs), .str (D.py (.tup xs)).shown) := rfl
theorem fRepr_lst : fRepr [.lst xs] = some (D.shOk (.lst xs), .str (D.py (.lst xs)).shown) := rfl
theorem fRepr_bl : fRepr [.bl b] = some (True, .str (if b then "True" else "False")) := rfl
theorem fRepr_non : fRepr [.non] = some (True, .str "None") := rfl
theorem it_tup : (D.tup xs).it? = some xs := rfl
theorem it_lst : (D.lst xs).it? = some xs := rfl
theorem cutq_lst {l h : Option Int} : (D.lst xs).cut? l h = some (.lst (cutD xs l h)) := rfl
theorem cutq_scr {l h : Option Int} : (D.scr xs).cut? l h = some (.lst (cutD xs l h)) := rfl
theorem cutq_tup {l h : Option Int} : (D.tup xs).cut? l h = some (.tup (cutD xs l h)) := rfl
theorem isNon_non : D.non.isNon = true := rfl
theorem isNon_int : (D.int i).isNon = false := rfl
theorem isNon_bl : (D.bl b).isNon = false := rfl
theorem isNon_str : (D.str s).isNon = false := rfl
theorem isNon_tup : (D.tup xs).isNon = false := rfl
theorem isNon_lst : (D.lst xs).isNon = false := rfl
theorem bls_nil : bls? [] = some [] := rfl
theorem bls_cons : bls? (.bl b :: xs) = (bls? xs).map (b :: ·) := rfl
theorem nums_nil : nums? [] = some [] := rfl
theorem nums_cons : nums? (.int i :: xs) = (nums? xs).map (i :: ·) := rfl
theorem all_nil' : ([] : List Bool).all (fun b => b) = true := rfl
theorem all_cons' {bs : List Bool} : (b :: bs).all (fun b => b) = (b && bs.all fun b => b) := rfl
theorem any_nil' : ([] : List Bool).any (fun b => b) = false := rfl
theorem any_cons' {bs : List Bool} : (b :: bs).any (fun b => b) = (b || bs.any fun b => b) := rfl
end
/-- a test's answer that hangs on nothing -/
theorem ifT {A B : Prop} : (if True then A else B) = A := if_pos trivial
theorem ifF {A B : Prop} : (if False then A else B) = B := if_neg (fun h => h)

theorem ifA {A B X Y : Prop} [Decidable A] [Decidable B] : (if A then (if B then X else Y) else Y) = (if A ∧ B then X else Y) := by
  by_cases a : A <;> by_cases b : B <;> simp [a, b]
theorem ifO {A B X Y : Prop} [Decidable A] [Decidable B] : (if A then X else (if B then X else Y)) = (if A ∨ B then X else Y) := by
  by_cases a : A <;> by_cases b : B <;> simp [a, b]
/-! texts of data -/
mutual
/-- numbers below 2 ^ 1900 -/
def D.lite : D → Prop
  | .non => True | .bl _ => True | .int i => i.natAbs < 2 ^ 1900 | .str x => PyData.strOk x = true ∧ PyData.strOk (reprText x) = true ∧ (x.cps.toList.all fun c => decide (c < 16 ^ 8)) = true | .tup xs => D.liteL xs | .lst xs => D.liteL xs | .obj _ _ _ => False | .ref _ => False | .scr _ => False | .dct _ _ => False
def D.liteL : List D → Prop
  | [] => True | x :: r => x.lite ∧ D.liteL r
end
theorem log_lt' {i : Int} (h : i.natAbs < 2 ^ 1900) : i.natAbs.log2 < 1900 := by
  by_cases h0 : i.natAbs = 0
  · rw [h0]; decide
  · exact (Nat.log2_lt h0).mpr h
set_option exponentiation.threshold 3000 in
theorem Sz.lite {n : Nat} {i : Int} (h : Sz n i) (hn : n ≤ 1900) : (D.int i).lite := by
  simp only [D.lite]
  exact h.mono hn
end L2.G

namespace L2.G
open PySem PySem.Spec PyProof.Rows
/-! == of data, piece by piece -/
def eqDL (xs ys : List D) : Bool := PyData.eqvAll (D.pyL xs) (D.pyL ys)
section
variable {i j : Int} {b c : Bool} {s u : Str} {xs ys : List D} {d e : D}
theorem eqD_int : eqD (.int i) (.int j) = decide (i = j) := by unfold eqD; simp only [D.py, PyData.eqv]; by_cases h : i = j <;> simp [h]
theorem eqD_str : eqD (.str s) (.str u) = decide (s = u) := by unfold eqD; simp only [D.py, PyData.eqv]; by_cases h : s = u <;> simp [h]
theorem eqD_bl : eqD (.bl b) (.bl c) = decide (b = c) := by unfold eqD; simp only [D.py, PyData.eqv]; cases b <;> cases c <;> rfl
theorem eqD_nn : eqD .non .non = true := by unfold eqD; simp only [D.py, PyData.eqv]
theorem eqD_ni : eqD .non (.int i) = false := by unfold eqD; simp only [D.py, PyData.eqv]
theorem eqD_in : eqD (.int i) .non = false := by unfold eqD; simp only [D.py, PyData.eqv]
theorem eqD_nt : eqD .non (.tup xs) = false := by unfold eqD; simp only [D.py, PyData.eqv]
theorem eqD_tn : eqD (.tup xs) .non = false := by unfold eqD; simp only [D.py, PyData.eqv]
theorem eqD_tup : eqD (.tup xs) (.tup ys) = eqDL xs ys := by unfold eqD eqDL; simp only [D.py, PyData.eqv]
theorem eqD_lst : eqD (.lst xs) (.lst ys) = eqDL xs ys := by unfold eqD eqDL; simp only [D.py, PyData.eqv]
theorem eqDL_nil : eqDL [] [] = true := rfl
theorem eqDL_nc : eqDL [] (d :: xs) = false := rfl
theorem eqDL_cn : eqDL (d :: xs) [] = false := rfl
theorem eqDL_cons : eqDL (d :: xs) (e :: ys) = (eqD d e && eqDL xs ys) := rfl
end
theorem ok_cx {a b : Int} : (D.tup [.int a, .int b]).eqOk := ⟨rfl, rfl⟩
end L2.G

namespace L2.G
open PySem PySem.Spec PyProof.Rows
/-- lo, lo - 1, .. : n of them -/
def downL (lo : Int) : Nat → List D
  | 0 => [] | n + 1 => .int lo :: downL (lo - 1) n
def iR3 (fr : dA) : dI := fun ρ T k => fr ρ T fun as T1 => match as with
  | [.val (.int i), .val (.int j), .val (.int c)] => (c = -1 ∧ i - j ≤ 1000000 ∧ -(2 ^ 61) ≤ i ∧ i < 2 ^ 61 ∧ -(2 ^ 61) ≤ j ∧ j < 2 ^ 61) ∧ k (downL i (i - j).toNat) T1 | _ => False
section
variable {X : Cx} {tg : Expr} {fr : dA} {p pos : Pos}
end
/-- the whole root -/
def isq (n : Int) : Int := ((Float64.isqrt n.toNat : Nat) : Int)
theorem fSqrt_isq {i : Int} : fSqrt [.int i] = some (0 ≤ i ∧ i.natAbs < 2 ^ 13000, .int (isq i)) := rfl
end L2.G

namespace L2.G
open PySem PySem.Spec PyProof.Rows
section
variable {X : Cx} {a : Expr} {es : List Expr} {fa : dE} {fr : dA} {pos : Pos}
/-- x, y = a, [..] where y's list is its own -/
def sParO (i j : Nat) (fa : dE) (fr : dA) : dS := fun k ρ T => fa ρ T fun d T1 => fr ρ T1 fun as T2 => match vals? as with | some ds => ds.length ≤ 1000000 ∧ k.nx ((ρ.set i (some (.val d))).set j (some (.own ds))) T2 | none => False
/-- *e among arguments -/
theorem ArgL.app {K : PySem.W.Frag} {t : Option Addr} {F : Hp} {as : List SV} {ws : List V} (q : ArgL K t F as ws) : ∀ {xs : List D} {vs : List V}, RepL K F xs vs → ArgL K t F (xs.map SV.val ++ as) (vs ++ ws)
  | _, _, .nil => q
  | _, _, .cons r rr => .val r (ArgL.app q rr)
def aStar (fe : dE) (fr : dA) : dA := fun ρ T k => fe ρ T fun d T1 => match d.it? with | some xs => fr ρ T1 fun as T2 => k (xs.map SV.val ++ as) T2 | none => False
end
end L2.G

namespace L2.G
open PySem PySem.Spec PyProof.Rows
/-! enumerate(e) over a list or a tuple -/
section
variable {X : Cx} {e : Expr} {fe : dE} {p pos tpos : Pos} {elts : List Expr} {kk : Nat}
def enD : Int → List D → List D
  | _, [] => [] | i, d :: r => .tup [.int i, d] :: enD (i + 1) r
def iEn (fe : dE) : dI := fun ρ T k => fe ρ T fun d T1 => match d.it? with | some xs => xs.length ≤ 1000000 ∧ k (enD 0 xs) T1 | none => False
end
end L2.G

namespace L2.G
open PySem PySem.Spec PyProof.Rows
/-! in, not in: over lists and tuples -/
section
variable {X : Cx}
end
def fInS (x y : D) : PD := match y with | .lst ys => some (x.eqOk ∧ D.eqOk (.lst ys), .bl (ys.any fun z => eqD z x)) | .tup ys => some (x.eqOk ∧ D.eqOk (.tup ys), .bl (ys.any fun z => eqD z x)) | _ => none
def fNotInS (x y : D) : PD := match y with | .lst ys => some (x.eqOk ∧ D.eqOk (.lst ys), .bl (!ys.any fun z => eqD z x)) | .tup ys => some (x.eqOk ∧ D.eqOk (.tup ys), .bl (!ys.any fun z => eqD z x)) | _ => none
theorem fInS_lst {x : D} {ys : List D} : fInS x (.lst ys) = some (x.eqOk ∧ D.eqOk (.lst ys), .bl (ys.any fun z => eqD z x)) := rfl
theorem fInS_tup {x : D} {ys : List D} : fInS x (.tup ys) = some (x.eqOk ∧ D.eqOk (.tup ys), .bl (ys.any fun z => eqD z x)) := rfl
theorem fNotInS_lst {x : D} {ys : List D} : fNotInS x (.lst ys) = some (x.eqOk ∧ D.eqOk (.lst ys), .bl (!ys.any fun z => eqD z x)) := rfl
theorem fNotInS_tup {x : D} {ys : List D} : fNotInS x (.tup ys) = some (x.eqOk ∧ D.eqOk (.tup ys), .bl (!ys.any fun z => eqD z x)) := rfl
section
variable {X : Cx} {a b e : Expr} {fa fb fe : dE} {fr : dA} {p pos : Pos} {n : Nat} {es : List Expr} {tg : Expr}
end

/-! own lists read for a while -/
mutual
def D.noL : D → Prop
  | .non => True | .bl _ => True | .int _ => True | .str _ => True | .tup xs => D.noLL xs | .lst _ => False | .obj _ _ _ => False | .ref _ => True | .scr _ => False | .dct _ _ => False
def D.noLL : List D → Prop
  | [] => True | x :: r => x.noL ∧ D.noLL r
end
theorem Wd.frz {K : PySem.W.Frag} {ρ : En} {T : Tk} {t : Option Addr} {σ : L2.St} {F H : Hp} (w : Wd K ρ T t σ F H) {i : Nat} {xs : List D} (e : ρ[i]? = some (some (.own xs))) :
    ∃ l vs, F l = none ∧ Wd K (ρ.set i (some (.val (.lst xs)))) T t σ (upd F l (.lst vs)) H := by
  obtain ⟨v, hv, l, vs, rfl, hF, hH, r, nt⟩ := w.slot i _ e
  have sm : Same F (upd F l (.lst vs)) := same_upd hF
  have sub : Same (upd F l (.lst vs)) H := fun b u q => by
    by_cases hb : b = l
    · subst hb; rw [upd_same] at q; cases q; exact hH
    · rw [upd_ne hb] at q; exact w.wt.sub b u q
  have wt : Wt K T t (upd F l (.lst vs)) H := ⟨sub, fun a ea => by
    obtain ⟨n, us, hu, ru⟩ := w.wt.tank a ea
    have ne : a ≠ l := fun z => nt (by rw [ea, z])
    exact ⟨by rw [upd_ne ne]; exact n, us, hu, ru.mono sm⟩, w.wt.tabs.frz hH⟩
  refine ⟨l, vs, hF, wt, by simpa using w.len, fun j s ej => ?_, fun j j' ys zs m e1 e2 e3 e4 => ?_⟩
  · rcases getSet ej with ⟨rfl, _, e'⟩ | ⟨ne, e'⟩
    · cases e'
      exact ⟨.ref l, hv, .lst upd_same (r.mono sm)⟩
    · obtain ⟨u, h1, h2⟩ := w.slot j s e'
      refine ⟨u, h1, ?_⟩
      cases s with
      | val d => exact Rep.mono sm h2
      | tank => exact h2
      | exc _ _ => exact ⟨h2.1, fun dd fl x q => let ⟨n, u, f1, r1⟩ := h2.2 dd fl x q; ⟨n, u, f1, r1.mono sm⟩⟩
      | fn _ _ _ => exact h2
      | ptup _ => obtain ⟨a, o, us, e, hf, c1, c2, r⟩ := h2; exact ⟨a, o, us, e, sm _ _ hf, c1, c2, r.mono sm⟩
      | own ys =>
        obtain ⟨m, us, rfl, f1, f2, f3, f4⟩ := h2
        have nm : m ≠ l := fun z => ne (w.apart i j xs ys l e e' hv (z ▸ h1))
        exact ⟨m, us, rfl, by rw [upd_ne nm]; exact f1, f2, f3.mono sm, f4⟩
  · rcases getSet e1 with ⟨_, _, z⟩ | ⟨n1, e1⟩
    · cases z
    · rcases getSet e2 with ⟨_, _, z⟩ | ⟨n2, e2⟩
      · cases z
      · exact w.apart j j' ys zs m e1 e2 e3 e4
def dView (i : Nat) (fe : dE) : dE := fun ρ T k => match ρ[i]? with | some (some (.own xs)) => fe (ρ.set i (some (.val (.lst xs)))) T fun d T1 => d.noL ∧ D.noLL T1 ∧ k d T1 | _ => fe ρ T k
def dViewT (i : Nat) (tc : dT) : dT := fun ρ T k => match ρ[i]? with | some (some (.own xs)) => tc (ρ.set i (some (.val (.lst xs)))) T fun d T1 => D.noLL T1 ∧ k d T1 | _ => tc ρ T k
section
variable {X : Cx} {e : Expr} {es : List Expr} {fe : dE} {fr : dA} {p pos : Pos} {st : Stmt} {f : dS}
/-- it will not be changed any more, if it is own -/
def sFrq (i : Nat) (f : dS) : dS := fun k ρ T => match ρ[i]? with | some (some (.own xs)) => f k (ρ.set i (some (.val (.lst xs)))) T | _ => f k ρ T
/-- x[e] = .. in an own list -/
def gOs (i : Nat) (fe : dE) : dG := fun d ρ T k => match ρ[i]? with | some (some (.own xs)) => fe ρ T fun j T1 => (match j with | .int j => (match ixN xs.length j with | some m => k (ρ.set i (some (.own (xs.set m d)))) T1 | none => False) | _ => False) | _ => False
/-! a def that hands back a list of its own -/
def OkN (P : Program) (w : World) (K : PySem.W.Frag) (mg : Str → Option Value) (base : Heap) (n : Nat) (x : Str) (ps : List Str) (sem : Sem) : Prop :=
  ∃ f fd, mg x = some (.ref f) ∧ PySem.W.keepIn K (.ref f) = true ∧ Binds K fd ps [] ∧ (∀ (s : Shared) (ws : List Value), K.In s.heap → ws.length = ps.length → BindsTo s fd ⟨[], ps.zip ws⟩ (ps.zip ws)) ∧ GFn P w K mg base CX0 n f fd ps (spO K ps.length sem) ∧ ∃ oc od osl, K.lookup f = some ⟨oc, od, .func fd, osl⟩
theorem fin_own {K : PySem.W.Frag} {t : Option Addr} {F H : Hp} {T : Tk} {k : KD} {Q : VK} (w : Wt K T t F H) (f : Fin K t F H k Q) : FinO K t F H k Q := by
  intro l lv H' F' xs T' w' g' hl hF' hH' r' q
  have nt : ∀ a, t = some a → a ≠ l := fun a ea z => by
    obtain ⟨_, us, hu, _⟩ := w.tank a ea
    rw [z, hl] at hu
    cases hu
  have sm : Same F' (upd F' l (.lst lv)) := same_upd hF'
  refine f (.ref l) H' (upd F' l (.lst lv)) (.lst xs) T' ⟨fun b u e => ?_, fun a ea => ?_, w'.tabs.frz hH'⟩ ⟨g'.sub.trans sm, g'.keepT, fun a o h n => ?_, g'.there⟩ (.lst upd_same (r'.mono sm)) q
  · by_cases hb : b = l
    · subst hb; rw [upd_same] at e; cases e; exact hH'
    · rw [upd_ne hb] at e; exact w'.sub b u e
  · obtain ⟨n1, us, hu, ru⟩ := w'.tank a ea
    exact ⟨by rw [upd_ne (nt a ea)]; exact n1, us, hu, ru.mono sm⟩
  · have ne : a ≠ l := fun z => by rw [z, hl] at h; cases h
    rw [upd_ne ne]
    exact g'.new a o h n
theorem OkN.ok {P : Program} {w : World} {K : PySem.W.Frag} {mg : Str → Option Value} {base : Heap} {n : Nat} {x : Str} {ps : List Str} {sem : Sem} (h : OkN P w K mg base n x ps sem) : Ok P w K mg base n x ps sem :=
  let ⟨f, fd, h1, h2, h3, h4, h5, h6⟩ := h
  ⟨f, fd, h1, h2, h3, h4, h5.imp (fun vs H Q E ⟨q1, F, t, T, as, k, a, b, c, d⟩ => ⟨q1, F, t, T, as, k, a, b, c, fin_own b d⟩), h6⟩
theorem OkN.mono {P : Program} {w : World} {K : PySem.W.Frag} {mg : Str → Option Value} {base : Heap} {m n : Nat} {x : Str} {ps : List Str} {sem : Sem} (h : OkN P w K mg base m x ps sem) (l : m ≤ n) : OkN P w K mg base n x ps sem :=
  let ⟨f, fd, h1, h2, h3, h4, h5, h6⟩ := h; ⟨f, fd, h1, h2, h3, h4, h5.mono l, h6⟩
variable {y : Str} {n m : Nat} {ps qs : List Str} {so : Sem} {q pos2 : Pos} {a b : Expr} {fa fb : dE}
/-- x = f(..), f's list x's own -/
def sOwnC (i m : Nat) (so : Sem) (fr : dA) : dS := fun k ρ T => fr ρ T fun as T1 => as.length = m ∧ so as T1 fun d T2 => match d with | .lst xs => k.nx (ρ.set i (some (.own xs))) T2 | _ => False
/-- x, y = a, f(..) with y's list its own -/
def sParC (i j m : Nat) (so : Sem) (fa : dE) (fr : dA) : dS := fun k ρ T => fa ρ T fun d T1 => fr ρ T1 fun as T2 => as.length = m ∧ so as T2 fun d2 T3 => match d2 with | .lst xs => k.nx ((ρ.set i (some (.val d))).set j (some (.own xs))) T3 | _ => False
/-- x, y, z = a, b, f(..) with z's list its own -/
def sPar3C (i j l m : Nat) (so : Sem) (fa fb : dE) (fr : dA) : dS := fun k ρ T => fa ρ T fun d T1 => fb ρ T1 fun d' T1 => fr ρ T1 fun as T2 => as.length = m ∧ so as T2 fun d2 T3 => match d2 with | .lst xs => k.nx (((ρ.set i (some (.val d))).set j (some (.val d'))).set l (some (.own xs))) T3 | _ => False
end
theorem noL_int {i : Int} : (D.int i).noL = True := by simp only [D.noL]
theorem noL_bl {i : Bool} : (D.bl i).noL = True := by simp only [D.noL]
theorem noL_str {i : Str} : (D.str i).noL = True := by simp only [D.noL]
theorem noL_non : D.non.noL = True := by simp only [D.noL]
theorem noL_tup {xs : List D} : (D.tup xs).noL = D.noLL xs := by simp only [D.noL]
theorem noLL_nil : D.noLL [] = True := by simp only [D.noLL]
theorem noLL_cons {x : D} {xs : List D} : D.noLL (x :: xs) = (x.noL ∧ D.noLL xs) := by simp only [D.noLL]
/-! unpacking of a tuple or a list -/
def gTL (n : Nat) (gs : dGs) : dG := fun d ρ T k => match d.it? with | some ds => ds.length = n ∧ gs ds ρ T k | none => False
theorem g_unp {X : Cx} {pos : Pos} {tgs : List Expr} {j : Nat} {gs : dGs} {n : Nat} (hc : X.calm = true) (h : PGs X tgs (tDGs X.K gs)) (hn : (assignEach tgs X.env).length = n := by rfl) (hst : (assignEach tgs X.env).findIdx? (·.1) = none := by rfl) : PGd X (.Tuple tgs j pos) (gTL n gs) := by
  have key : PG X (.Tuple tgs j pos) (fun v σ H Q => gTup X.K n (tDGs X.K gs) v σ H Q ∨ gUnl X.K n (tDGs X.K gs) v σ H Q) := ⟨fun pins s σ H v u Q I r q => q.elim (fun q => (pg_tup hc h hn hst).run pins s σ H v u Q I r q) (fun q => (pg_unl hc h hn hst).run pins s σ H v u Q I r q)⟩
  refine pg_imp key fun v σ H Q h => ?_
  obtain ⟨ρ, T, t, F0, H0, F, d, k, w, r, h, f⟩ := h
  cases d <;> first | exact h.elim | skip
  · obtain ⟨a, vs, rfl, h1, h2⟩ := rep_tup r
    exact .inl ⟨a, vs, rfl, same_t w.w.wt.sub h1, by rw [← h2.len]; exact h.1, ρ, T, t, F0, H0, F, _, k, w, h2, h.2, f⟩
  · obtain ⟨a, vs, rfl, h1, h2⟩ := rep_lst r
    exact .inr ⟨a, vs, rfl, .of (w.w.wt.sub _ _ h1), by rw [← h2.len]; exact h.1, ρ, T, t, F0, H0, F, _, k, w, h2, h.2, f⟩
end L2.G

namespace L2.G
open PySem PySem.Spec PyProof.Rows
/-! zip of two lists or of two tuples -/
def zip2 : List SV → Option (List D × List D)
  | [.val (.lst xs), .val (.lst ys)] => some (xs, ys)
  | [.val (.tup xs), .val (.tup ys)] => some (xs, ys)
  | _ => none
theorem zip2_lst {xs ys : List D} : zip2 [.val (.lst xs), .val (.lst ys)] = some (xs, ys) := rfl
theorem zip2_tup {xs ys : List D} : zip2 [.val (.tup xs), .val (.tup ys)] = some (xs, ys) := rfl
theorem zipD_nil {ys : List D} : zipD [] ys = [] := rfl
theorem zipD_cons {x y : D} {xs ys : List D} : zipD (x :: xs) (y :: ys) = .tup [x, y] :: zipD xs ys := rfl
def iZA (fr : dA) : dI := fun ρ T k => fr ρ T fun as T1 => match zip2 as with | some p => (zipD p.1 p.2).length ≤ 1000000 ∧ k (zipD p.1 p.2) T1 | none => False
end L2.G

namespace L2.G
open PySem PySem.Spec PyProof.Rows
/-! walking at the head: what stands behind is left as it is until the head is told -/
/-- an argument whose type names what is to be left as it is -/
structure Fz {α : Type} (a : α) : Type where
def callS (s : Sem) (as : List SV) (T : Tk) (k : KD) (fz : Fz k := ⟨⟩) : Prop := s as T k
theorem callS_eq {s : Sem} {as : List SV} {T : Tk} {k : KD} : callS s as T k = s as T k := propext Iff.rfl
def iteB (c : Bool) (p q : Prop) (fz : Fz (p, q) := ⟨⟩) : Prop := if c = true then p else q
theorem iteB_t {p q : Prop} : iteB true p q = p := propext Iff.rfl
theorem iteB_f {p q : Prop} : iteB false p q = q := propext Iff.rfl
theorem iteB_of {c : Bool} {p q : Prop} (h1 : c = true → p) (h2 : c = false → q) : iteB c p q := by cases c; exact h2 rfl; exact h1 rfl
theorem iteB_p {c : Bool} {p q : Prop} (h : c = true) (h1 : p) : iteB c p q := by rw [h]; exact h1
theorem iteB_n {c : Bool} {p q : Prop} (h : c = false) (h1 : q) : iteB c p q := by rw [h]; exact h1
theorem iteB_not {c : Bool} {p q : Prop} : iteB (!c) p q = iteB c q p := by cases c <;> rfl
theorem iteB_tt {p : Prop} {c : Bool} : iteB c p p = p := by cases c <;> rfl
def setE (ρ : En) (F : En → Prop) (fz : Fz F := ⟨⟩) : Prop := F ρ
theorem setE_go {ρ : En} {F : En → Prop} : setE ρ F = F ρ := propext Iff.rfl
def pdK (r : PD) (k : D → Prop) (fz : Fz k := ⟨⟩) : Prop := match r with | some p => p.1 ∧ k p.2 | none => False
theorem pdK_t {d : D} {k : D → Prop} : pdK (some (True, d)) k = k d := propext (and_iff_right trivial)
theorem pdK_c {P : Prop} {d : D} {k : D → Prop} : pdK (some (P, d)) k = (P ∧ k d) := propext Iff.rfl
theorem oF_pd {f : D → D → PD} {x y : D} {k : D → Prop} : oF f x y k = pdK (f x y) k := propext Iff.rfl
def varK (s : Option (Option SV)) (T : Tk) (k : KD) (fz : Fz k := ⟨⟩) : Prop := match s with | some (some (.val d)) => k d T | some (some (.ptup ds)) => k (.tup ds) T | _ => False
theorem varK_pt {ds : List D} {T : Tk} {k : KD} : varK (some (some (.ptup ds))) T k = k (.tup ds) T := propext Iff.rfl
theorem varK_go {d : D} {T : Tk} {k : KD} : varK (some (some (.val d))) T k = k d T := propext Iff.rfl
section
variable {ρ : En} {T S : Tk} {k : KD} {d e : D} {o : Op2} {fa fb fe : dE} {ta tb : dT} {fr : dA} {i j l n m : Nat} {as : List SV} {xs ys : List D} {K : dEnds} {f g : dS} {tg : dG} {fi : dI}
theorem h_var : dVar i ρ T k = varK ρ[i]? T k := propext Iff.rfl
theorem h_c : dC d ρ T k = k d T := propext Iff.rfl
theorem h_op : dOp o fa fb ρ T k = fa ρ T fun x T1 => fb ρ T1 fun y T2 => o x y fun d => k d T2 := propext Iff.rfl
/-- keeps a lambda from being taken for its function -/
def wr (p : Prop) : Prop := p
def negK (x : D) (T : Tk) (k : KD) (fz : Fz k := ⟨⟩) : Prop := match x with | .int i => k (.int (-i)) T | _ => False
theorem negK_go {i : Int} : negK (.int i) T k = k (.int (-i)) T := propext Iff.rfl
theorem h_neg : dNeg fa ρ T k = fa ρ T fun x T1 => negK x T1 k := propext Iff.rfl
def bolK (b : Bool) (T : Tk) (k : Bool → Tk → Prop) (fz : Fz k := ⟨⟩) : Prop := k b T
theorem bolK_go {b : Bool} {k : Bool → Tk → Prop} : bolK b T k = k b T := propext Iff.rfl
theorem h_isN : dIsN fa ρ T k = fa ρ T fun x T1 => bolK x.isNon T1 fun b T => k (.bl b) T := propext Iff.rfl
theorem h_notN : dNotN fa ρ T k = fa ρ T fun x T1 => bolK (!x.isNon) T1 fun b T => k (.bl b) T := propext Iff.rfl
def tstK (x : D) (T : Tk) (k : Bool → Tk → Prop) (fz : Fz k := ⟨⟩) : Prop := match x with | .bl c => k c T | _ => False
theorem tstK_go {b : Bool} {k : Bool → Tk → Prop} : tstK (.bl b) T k = k b T := propext Iff.rfl
theorem h_tst {k : Bool → Tk → Prop} : dTst fa ρ T k = fa ρ T fun x T1 => tstK x T1 k := propext Iff.rfl
def andK (c : Bool) (T : Tk) (F : (Bool → Tk → Prop) → Prop) (k : Bool → Tk → Prop) (fz : Fz k := ⟨⟩) : Prop := if c = true then F k else k false T
theorem andK_t {F : (Bool → Tk → Prop) → Prop} {k : Bool → Tk → Prop} : andK true T (fun k' => wr (F k')) k = F k := propext Iff.rfl
theorem andK_f {F : (Bool → Tk → Prop) → Prop} {k : Bool → Tk → Prop} : andK false T F k = k false T := propext Iff.rfl
theorem andK_p {c c2 : Bool} {k : Bool → Tk → Prop} : andK c T (fun k' => wr (k' c2 T)) k = k (c && c2) T := by cases c <;> rfl
theorem andK_q {c c2 : Bool} {P : Prop} {k : Bool → Tk → Prop} : andK c T (fun k' => wr (P ∧ k' c2 T)) k = ((c = true → P) ∧ k (c && c2) T) := by cases c <;> simp [andK, wr]
def orK (c : Bool) (T : Tk) (F : (Bool → Tk → Prop) → Prop) (k : Bool → Tk → Prop) (fz : Fz k := ⟨⟩) : Prop := if c = true then k true T else F k
theorem orK_t {F : (Bool → Tk → Prop) → Prop} {k : Bool → Tk → Prop} : orK true T F k = k true T := propext Iff.rfl
theorem orK_f {F : (Bool → Tk → Prop) → Prop} {k : Bool → Tk → Prop} : orK false T (fun k' => wr (F k')) k = F k := propext Iff.rfl
theorem orK_p {c c2 : Bool} {k : Bool → Tk → Prop} : orK c T (fun k' => wr (k' c2 T)) k = k (c || c2) T := by cases c <;> rfl
theorem orK_q {c c2 : Bool} {P : Prop} {k : Bool → Tk → Prop} : orK c T (fun k' => wr (P ∧ k' c2 T)) k = ((c = false → P) ∧ k (c || c2) T) := by cases c <;> simp [orK, wr]
theorem h_and {k : Bool → Tk → Prop} : dAnd ta tb ρ T k = ta ρ T fun c T1 => andK c T1 (fun k' => wr (tb ρ T1 k')) k := propext Iff.rfl
theorem h_or {k : Bool → Tk → Prop} : dOr ta tb ρ T k = ta ρ T fun c T1 => orK c T1 (fun k' => wr (tb ρ T1 k')) k := propext Iff.rfl
theorem h_not {k : Bool → Tk → Prop} : dNot ta ρ T k = ta ρ T fun c T1 => bolK (!c) T1 k := propext Iff.rfl

def andVK (x : D) (T : Tk) (F : KD → Prop) (k : KD) (fz : Fz k := ⟨⟩) : Prop := match x with | .bl c => if c = true then F k else k (.bl false) T | _ => False
theorem andVK_t {F : KD → Prop} : andVK (.bl true) T (fun k' => wr (F k')) k = F k := propext Iff.rfl
theorem andVK_f {F : KD → Prop} : andVK (.bl false) T F k = k (.bl false) T := propext Iff.rfl
theorem andVK_p {c c2 : Bool} : andVK (.bl c) T (fun k' => wr (k' (.bl c2) T)) k = k (.bl (c && c2)) T := by cases c <;> rfl
theorem andVK_q {c c2 : Bool} {P : Prop} : andVK (.bl c) T (fun k' => wr (P ∧ k' (.bl c2) T)) k = ((c = true → P) ∧ k (.bl (c && c2)) T) := by cases c <;> simp [andVK, wr]
def orVK (x : D) (T : Tk) (F : KD → Prop) (k : KD) (fz : Fz k := ⟨⟩) : Prop := match x with | .bl c => if c = true then k (.bl true) T else F k | _ => False
theorem orVK_t {F : KD → Prop} : orVK (.bl true) T F k = k (.bl true) T := propext Iff.rfl
theorem orVK_f {F : KD → Prop} : orVK (.bl false) T (fun k' => wr (F k')) k = F k := propext Iff.rfl
theorem orVK_p {c c2 : Bool} : orVK (.bl c) T (fun k' => wr (k' (.bl c2) T)) k = k (.bl (c || c2)) T := by cases c <;> rfl
theorem orVK_q {c c2 : Bool} {P : Prop} : orVK (.bl c) T (fun k' => wr (P ∧ k' (.bl c2) T)) k = ((c = false → P) ∧ k (.bl (c || c2)) T) := by cases c <;> simp [orVK, wr]
theorem h_andV : dAndV fa fb ρ T k = fa ρ T fun x T1 => andVK x T1 (fun k' => wr (fb ρ T1 k')) k := propext Iff.rfl
theorem h_orV : dOrV fa fb ρ T k = fa ρ T fun x T1 => orVK x T1 (fun k' => wr (fb ρ T1 k')) k := propext Iff.rfl
def notVK (x : D) (T : Tk) (k : KD) (fz : Fz k := ⟨⟩) : Prop := match x with | .bl c => k (.bl (!c)) T | _ => False
theorem notVK_go {b : Bool} : notVK (.bl b) T k = bolK (!b) T fun b T => k (.bl b) T := propext Iff.rfl
theorem h_notV : dNotV fa ρ T k = fa ρ T fun x T1 => notVK x T1 k := propext Iff.rfl
theorem h_if : dIf ta fa fb ρ T k = ta ρ T fun c T1 => iteB c (fa ρ T1 k) (fb ρ T1 k) := propext Iff.rfl
/-! arguments -/
theorem h_anil {k : List SV → Tk → Prop} : aNil ρ T k = k [] T := propext Iff.rfl
theorem h_acons {k : List SV → Tk → Prop} : aCons fe fr ρ T k = fe ρ T fun d T1 => fr ρ T1 fun as T2 => k (.val d :: as) T2 := propext Iff.rfl
def tnkK (s : Option (Option SV)) (P : Prop) (fz : Fz P := ⟨⟩) : Prop := (match s with | some (some .tank) => True | _ => False) ∧ P
theorem tnkK_go {P : Prop} : tnkK (some (some .tank)) P = P := propext (and_iff_right trivial)
theorem h_atank {k : List SV → Tk → Prop} : aTank i fr ρ T k = tnkK ρ[i]? (fr ρ T fun as T2 => k (.tank :: as) T2) := propext Iff.rfl
def sqK (o : Option (List D)) (k : List D → Prop) (fz : Fz k := ⟨⟩) : Prop := match o with | some xs => k xs | none => False
theorem sqK_go {k : List D → Prop} : sqK (some xs) k = k xs := propext Iff.rfl
theorem h_astar {k : List SV → Tk → Prop} : aStar fe fr ρ T k = fe ρ T fun d T1 => sqK d.it? fun xs => fr ρ T1 fun as T2 => k (xs.map SV.val ++ as) T2 := propext Iff.rfl
theorem h_tup : dTup fr ρ T k = fr ρ T fun as T1 => sqK (vals? as) fun ds => ds.length ≤ 1000000 ∧ k (.tup ds) T1 := propext Iff.rfl
theorem h_lst : dLst fr ρ T k = fr ρ T fun as T1 => sqK (vals? as) fun ds => ds.length ≤ 1000000 ∧ k (.lst ds) T1 := propext Iff.rfl
theorem vals_val : vals? (.val d :: as) = (vals? as).map (d :: ·) := rfl
theorem vals_nil : vals? [] = some [] := rfl
def callN (n : Nat) (s : Sem) (as : List SV) (T : Tk) (k : KD) (fz : Fz k := ⟨⟩) : Prop := as.length = n ∧ s as T k
theorem callN_go {n : Nat} {s : Sem} : callN n s as T k = (as.length = n ∧ callS s as T k) := propext Iff.rfl
theorem h_call {s : Sem} : dCall n s fr ρ T k = fr ρ T fun as T1 => callN n s as T1 k := propext Iff.rfl
def lstK (d : D) (k : List D → Prop) (fz : Fz k := ⟨⟩) : Prop := match d with | .lst xs => k xs | _ => False
theorem lstK_go {k : List D → Prop} : lstK (.lst xs) k = k xs := propext Iff.rfl
theorem h_callT {s so : Sem} : dCallT n s so fr ρ T k = fr ρ T fun as T1 => callN n so as T1 fun d T2 => lstK d fun xs => callS s [.tank] xs fun r _ => k r T2 := propext Iff.rfl
theorem h_blt {f : List D → PD} : dBlt (oG f) fr ρ T k = fr ρ T fun as T1 => sqK (vals? as) fun ds => pdK (f ds) fun d => k d T1 := propext Iff.rfl
def opK (o : Option D) (k : D → Prop) (fz : Fz k := ⟨⟩) : Prop := match o with | some d => k d | none => False
theorem opK_go {k : D → Prop} : opK (some d) k = k d := propext Iff.rfl
def intK (d : D) (k : Int → Prop) (fz : Fz k := ⟨⟩) : Prop := match d with | .int i => k i | _ => False
theorem intK_go {i : Int} {k : Int → Prop} : intK (.int i) k = k i := propext Iff.rfl
theorem h_psome {k : Option Int → Tk → Prop} : pSome fe ρ T k = fe ρ T fun d T1 => intK d fun i => k (some i) T1 := propext Iff.rfl
theorem h_slq {lo hi : dP} : dSlQ fe lo hi ρ T k = fe ρ T fun x T1 => lo ρ T1 fun l T2 => hi ρ T2 fun h T3 => opK (x.cut? l h) fun d => k d T3 := propext Iff.rfl
def blqK (o : Option Bool) (T : Tk) (k : KD) (fz : Fz k := ⟨⟩) : Prop := match o with | some r => k (.bl r) T | none => False
theorem blqK_go {b : Bool} : blqK (some b) T k = k (.bl b) T := propext Iff.rfl
theorem h_isi {t : Ty} : dIsi t fe ρ T k = fe ρ T fun d T1 => blqK (isTy t d) T1 k := propext Iff.rfl
/-! walks -/
theorem h_iQ {k : List D → Tk → Prop} : iQ fe ρ T k = fe ρ T fun d T1 => sqK d.it? fun xs => xs.length ≤ 1000000 ∧ k xs T1 := propext Iff.rfl
def r1K (as : List SV) (T : Tk) (k : List D → Tk → Prop) (fz : Fz k := ⟨⟩) : Prop := match as with | [.val (.int j)] => (j ≤ 1000000 ∧ -(2 ^ 62) ≤ j) ∧ k (intsL 0 j.toNat) T | _ => False
theorem r1K_go {j : Int} {k : List D → Tk → Prop} : r1K [.val (.int j)] T k = ((j ≤ 1000000 ∧ -(2 ^ 62) ≤ j) ∧ k (intsL 0 j.toNat) T) := propext Iff.rfl
theorem h_iR1 {k : List D → Tk → Prop} : iR1 fr ρ T k = fr ρ T fun as T1 => r1K as T1 k := by
  unfold iR1; congr 1; funext as T1; unfold r1K; split <;> simp only [and_assoc]
def r2K (as : List SV) (T : Tk) (k : List D → Tk → Prop) (fz : Fz k := ⟨⟩) : Prop := match as with | [.val (.int i), .val (.int j)] => (j - i ≤ 1000000 ∧ -(2 ^ 61) ≤ i ∧ i < 2 ^ 61 ∧ -(2 ^ 61) ≤ j ∧ j < 2 ^ 61) ∧ k (intsL i (j - i).toNat) T | _ => False
theorem r2K_go {i j : Int} {k : List D → Tk → Prop} : r2K [.val (.int i), .val (.int j)] T k = ((j - i ≤ 1000000 ∧ -(2 ^ 61) ≤ i ∧ i < 2 ^ 61 ∧ -(2 ^ 61) ≤ j ∧ j < 2 ^ 61) ∧ k (intsL i (j - i).toNat) T) := propext Iff.rfl
theorem h_iR2 {k : List D → Tk → Prop} : iR2 fr ρ T k = fr ρ T fun as T1 => r2K as T1 k := propext Iff.rfl
def r3K (as : List SV) (T : Tk) (k : List D → Tk → Prop) (fz : Fz k := ⟨⟩) : Prop := match as with | [.val (.int i), .val (.int j), .val (.int c)] => (c = -1 ∧ i - j ≤ 1000000 ∧ -(2 ^ 61) ≤ i ∧ i < 2 ^ 61 ∧ -(2 ^ 61) ≤ j ∧ j < 2 ^ 61) ∧ k (downL i (i - j).toNat) T | _ => False
theorem r3K_go {i j c : Int} {k : List D → Tk → Prop} : r3K [.val (.int i), .val (.int j), .val (.int c)] T k = ((c = -1 ∧ i - j ≤ 1000000 ∧ -(2 ^ 61) ≤ i ∧ i < 2 ^ 61 ∧ -(2 ^ 61) ≤ j ∧ j < 2 ^ 61) ∧ k (downL i (i - j).toNat) T) := propext Iff.rfl
theorem h_iR3 {k : List D → Tk → Prop} : iR3 fr ρ T k = fr ρ T fun as T1 => r3K as T1 k := propext Iff.rfl
def zpK (o : Option (List D × List D)) (T : Tk) (k : List D → Tk → Prop) (fz : Fz k := ⟨⟩) : Prop := match o with | some p => (zipD p.1 p.2).length ≤ 1000000 ∧ k (zipD p.1 p.2) T | none => False
theorem zpK_go {k : List D → Tk → Prop} : zpK (some (xs, ys)) T k = ((zipD xs ys).length ≤ 1000000 ∧ k (zipD xs ys) T) := propext Iff.rfl
theorem h_iZA {k : List D → Tk → Prop} : iZA fr ρ T k = fr ρ T fun as T1 => zpK (zip2 as) T1 k := propext Iff.rfl
theorem h_iEn {k : List D → Tk → Prop} : iEn fe ρ T k = fe ρ T fun d T1 => sqK d.it? fun xs => xs.length ≤ 1000000 ∧ k (enD 0 xs) T1 := propext Iff.rfl
/-! statements -/
theorem h_seq : sSeq f g K ρ T = f { K with nx := g K } ρ T := propext Iff.rfl
theorem h_ret : sRet fe K ρ T = fe ρ T K.rt := propext Iff.rfl
theorem h_expr : sExpr fe K ρ T = fe ρ T fun _ T1 => K.nx ρ T1 := propext Iff.rfl
theorem h_sif : sIf ta f g K ρ T = ta ρ T fun c T1 => iteB c (f K ρ T1) (g K ρ T1) := propext Iff.rfl
theorem h_asg : sAsg fe tg K ρ T = fe ρ T fun d T1 => tg d ρ T1 K.nx := propext Iff.rfl
theorem h_gN {k : En → Tk → Prop} : gN i d ρ T k = setE (ρ.set i (some (.val d))) fun ρ => k ρ T := propext Iff.rfl
theorem h_gsnil {k : En → Tk → Prop} : gsNil [] ρ T k = k ρ T := propext (and_iff_right rfl)
theorem h_gscons {gs : dGs} {k : En → Tk → Prop} : gsCons tg gs (d :: xs) ρ T k = tg d ρ T fun ρ' T' => gs xs ρ' T' k := propext Iff.rfl
theorem h_gTL {gs : dGs} {k : En → Tk → Prop} : gTL n gs d ρ T k = sqK d.it? fun ds => ds.length = n ∧ gs ds ρ T k := propext Iff.rfl
theorem h_gT {gs : dGs} {k : En → Tk → Prop} : gT n gs (.tup xs) ρ T k = (xs.length = n ∧ gs xs ρ T k) := propext Iff.rfl
def parK (i j : Nat) (as : List SV) (ρ : En) (T : Tk) (k : En → Tk → Prop) (fz : Fz k := ⟨⟩) : Prop := match as with | [.val d, .val e] => k ((ρ.set i (some (.val d))).set j (some (.val e))) T | _ => False
theorem parK_go {k : En → Tk → Prop} : parK i j [.val d, .val e] ρ T k = setE ((ρ.set i (some (.val d))).set j (some (.val e))) fun ρ => k ρ T := propext Iff.rfl
theorem h_par : sPar i j fr K ρ T = fr ρ T fun as T1 => parK i j as ρ T1 K.nx := propext Iff.rfl
def parK3 (i j l : Nat) (as : List SV) (ρ : En) (T : Tk) (k : En → Tk → Prop) (fz : Fz k := ⟨⟩) : Prop := match as with | [.val d, .val e, .val f] => k (((ρ.set i (some (.val d))).set j (some (.val e))).set l (some (.val f))) T | _ => False
theorem parK3_go {c : D} {k : En → Tk → Prop} : parK3 i j l [.val d, .val e, .val c] ρ T k = setE (((ρ.set i (some (.val d))).set j (some (.val e))).set l (some (.val c))) fun ρ => k ρ T := propext Iff.rfl
theorem h_par3 : sPar3 i j l fr K ρ T = fr ρ T fun as T1 => parK3 i j l as ρ T1 K.nx := propext Iff.rfl
theorem h_parO : sParO i j fa fr K ρ T = fa ρ T fun d T1 => fr ρ T1 fun as T2 => sqK (vals? as) fun ds => ds.length ≤ 1000000 ∧ setE ((ρ.set i (some (.val d))).set j (some (.own ds))) fun ρ => K.nx ρ T2 := propext Iff.rfl
theorem h_parC {so : Sem} : sParC i j m so fa fr K ρ T = fa ρ T fun d T1 => fr ρ T1 fun as T2 => callN m so as T2 fun d2 T3 => lstK d2 fun xs => setE ((ρ.set i (some (.val d))).set j (some (.own xs))) fun ρ => K.nx ρ T3 := propext Iff.rfl
theorem h_par3C {so : Sem} : sPar3C i j l m so fa fb fr K ρ T = fa ρ T fun d T1 => fb ρ T1 fun d' T1 => fr ρ T1 fun as T2 => callN m so as T2 fun d2 T3 => lstK d2 fun xs => setE (((ρ.set i (some (.val d))).set j (some (.val d'))).set l (some (.own xs))) fun ρ => K.nx ρ T3 := propext Iff.rfl
theorem h_own : sOwn i fr K ρ T = fr ρ T fun as T1 => sqK (vals? as) fun ds => ds.length ≤ 1000000 ∧ setE (ρ.set i (some (.own ds))) fun ρ => K.nx ρ T1 := propext Iff.rfl
theorem h_ownC {so : Sem} : sOwnC i m so fr K ρ T = fr ρ T fun as T1 => callN m so as T1 fun d T2 => lstK d fun xs => setE (ρ.set i (some (.own xs))) fun ρ => K.nx ρ T2 := propext Iff.rfl
def ownK (s : Option (Option SV)) (k : List D → Prop) (e : Prop) (fz : Fz (k, e) := ⟨⟩) : Prop := match s with | some (some (.own xs)) => k xs | _ => e
theorem ownK_o {k : List D → Prop} {e : Prop} : ownK (some (some (.own xs))) k e = k xs := propext Iff.rfl
theorem ownK_v {k : List D → Prop} {e : Prop} : ownK (some (some (.val d))) k e = e := propext Iff.rfl
theorem ownK_n {k : List D → Prop} {e : Prop} : ownK (some none) k e = e := propext Iff.rfl
theorem h_frz : sFrz i f K ρ T = ownK ρ[i]? (fun xs => setE (ρ.set i (some (.val (.lst xs)))) fun ρ => f K ρ T) False := propext Iff.rfl
theorem h_frq : sFrq i f K ρ T = ownK ρ[i]? (fun xs => setE (ρ.set i (some (.val (.lst xs)))) fun ρ => f K ρ T) (f K ρ T) := propext Iff.rfl
theorem h_app : sApp i fe K ρ T = ownK ρ[i]? (fun xs => fe ρ T fun d T1 => xs.length < 1000000 ∧ setE (ρ.set i (some (.own (xs ++ [d])))) fun ρ => K.nx ρ T1) False := propext Iff.rfl
theorem h_view : dView i fe ρ T k = ownK ρ[i]? (fun xs => setE (ρ.set i (some (.val (.lst xs)))) fun ρ => fe ρ T fun d T1 => d.noL ∧ D.noLL T1 ∧ k d T1) (fe ρ T k) := propext Iff.rfl
theorem h_viewT {k : Bool → Tk → Prop} : dViewT i ta ρ T k = ownK ρ[i]? (fun xs => setE (ρ.set i (some (.val (.lst xs)))) fun ρ => ta ρ T fun d T1 => D.noLL T1 ∧ k d T1) (ta ρ T k) := propext Iff.rfl
def natK (o : Option Nat) (k : Nat → Prop) (fz : Fz k := ⟨⟩) : Prop := match o with | some m => k m | none => False
theorem natK_go {k : Nat → Prop} : natK (some n) k = k n := propext Iff.rfl
theorem h_gOs {k : En → Tk → Prop} : gOs i fe d ρ T k = ownK ρ[i]? (fun xs => fe ρ T fun j T1 => intK j fun j => natK (ixN xs.length j) fun m => setE (ρ.set i (some (.own (xs.set m d)))) fun ρ => k ρ T1) False := propext Iff.rfl
/-! loops -/
def forK (g : dG) (f : dS) (k : dEnds) (xs : List D) (ρ : En) (T : Tk) (fz : Fz (g, f, k) := ⟨⟩) : Prop := forL g f k xs ρ T
theorem forK_nil : forK tg f K [] ρ T = K.nx ρ T := propext Iff.rfl
theorem forK_cons : forK tg f K (d :: xs) ρ T = tg d ρ T fun ρ1 T1 => f { nx := fun ρ T => forK tg f K xs ρ T, rt := K.rt, bk := K.nx, ct := fun ρ T => forK tg f K xs ρ T } ρ1 T1 := propext Iff.rfl
theorem h_for : sForI fi tg f K ρ T = fi ρ T fun xs T1 => forK tg f K xs ρ T1 := propext Iff.rfl
def lcK (ρ : En) (c : dC1) (tt : dT) (el : dE) (k : List D → Tk → Prop) (xs acc : List D) (T : Tk) (fz : Fz (c, tt, el, k) := ⟨⟩) : Prop := lcD ρ c tt el k xs acc T
def enK (o : Option En) (k : En → Prop) (fz : Fz k := ⟨⟩) : Prop := match o with | some ρ => k ρ | none => False
theorem enK_go {k : En → Prop} : enK (some ρ) k = k ρ := propext Iff.rfl
variable {c : dC1} {el : dE} {kk : List D → Tk → Prop}
theorem lcK_nil : lcK ρ c ta el kk [] xs T = kk xs T := propext Iff.rfl
theorem lcK_cons : lcK ρ c ta el kk (d :: ys) xs T = enK (c d ρ) fun ρ1 => ta ρ1 T fun b T1 => iteB b (el ρ1 T1 fun y T2 => lcK ρ c ta el kk ys (xs ++ [y]) T2) (lcK ρ c ta el kk ys xs T1) := propext Iff.rfl
theorem h_lc {vs : List Nat} : dLc vs fi c ta el ρ T k = fi ρ T fun xs T1 => setE (wipeD ρ vs) fun ρ => lcK ρ c ta el (fun acc T2 => k (.lst acc) T2) xs [] T1 := propext Iff.rfl
theorem h_cN : cN i d ρ = some (ρ.set i (some (.val d))) := rfl
theorem h_cT {is : List Nat} : cT is (.tup xs) ρ = setAll is xs ρ := rfl
theorem h_yes {k : Bool → Tk → Prop} : dYes ρ T k = k true T := propext Iff.rfl
theorem setAll_nil : setAll [] [] ρ = some ρ := rfl
theorem setAll_cons {is : List Nat} : setAll (i :: is) (d :: xs) ρ = setAll is xs (ρ.set i (some (.val d))) := rfl
theorem wipe_nil : wipeD ρ [] = ρ := rfl
theorem wipe_cons {vs : List Nat} : wipeD ρ (i :: vs) = (wipeD ρ vs).set i none := rfl
end
/-! == of data without deep nests -/
mutual
def okN : Nat → D → Prop
  | _, .non => True | _, .bl _ => True | _, .int _ => True | _, .str x => PyData.strOk x = true
  | n, .tup xs => 0 < n ∧ okL (n - 1) xs | n, .lst xs => 0 < n ∧ okL (n - 1) xs | _, .obj _ _ _ => False | _, .ref _ => False | _, .scr _ => False | _, .dct _ _ => False
def okL : Nat → List D → Prop
  | _, [] => True
  | n, x :: r => okN n x ∧ okL n r
end
mutual
theorem okN_ok : ∀ {n : Nat} {d : D}, okN n d → d.isPy = true ∧ d.py.canLay0 = true ∧ d.py.depth ≤ n
  | n, .non, _ => ⟨rfl, rfl, Nat.zero_le _⟩
  | n, .bl _, _ => ⟨rfl, rfl, Nat.zero_le _⟩
  | n, .int _, _ => ⟨rfl, rfl, Nat.zero_le _⟩
  | n, .str x, h => by
    simp only [okN] at h
    exact ⟨rfl, by simp only [D.py, PyData.canLay0]; exact h, by simp only [D.py, PyData.depth]; exact Nat.zero_le _⟩
  | n, .tup xs, h => by
    simp only [okN] at h
    obtain ⟨h1, h2, h3⟩ := okL_ok h.2
    refine ⟨by simpa only [D.isPy] using h1, by simpa only [D.py, PyData.canLay0] using h2, ?_⟩
    simp only [D.py, PyData.depth]
    omega
  | n, .lst xs, h => by
    simp only [okN] at h
    obtain ⟨h1, h2, h3⟩ := okL_ok h.2
    refine ⟨by simpa only [D.isPy] using h1, by simpa only [D.py, PyData.canLay0] using h2, ?_⟩
    simp only [D.py, PyData.depth]
    omega
  | n, .obj _ _ _, h => by simp only [okN] at h
  | n, .ref _, h => by simp only [okN] at h
  | n, .scr _, h => by simp only [okN] at h
  | n, .dct _ _, h => by simp only [okN] at h
theorem okL_ok : ∀ {n : Nat} {xs : List D}, okL n xs → D.isPyL xs = true ∧ PyData.canLayAll0 (D.pyL xs) = true ∧ PyData.depthAll (D.pyL xs) ≤ n
  | n, [], _ => ⟨rfl, rfl, Nat.zero_le _⟩
  | n, x :: r, h => by
    simp only [okL] at h
    obtain ⟨a1, a2, a3⟩ := okN_ok h.1
    obtain ⟨b1, b2, b3⟩ := okL_ok h.2
    refine ⟨by simp only [D.isPyL, a1, b1, Bool.and_self], by simp only [D.pyL, PyData.canLayAll0, a2, b2, Bool.and_self], ?_⟩
    simp only [D.pyL, PyData.depthAll]
    omega
end
theorem okN_eqOk {d : D} (h : okN 60 d) : d.eqOk := by
  obtain ⟨h1, h2, h3⟩ := okN_ok h
  refine ⟨h1, ?_⟩
  unfold SeqAt.shaped
  simp only [h2, Bool.true_and, decide_eq_true_eq]
  omega
theorem okN_t {d : D} (h : okN 60 d) : d.eqOk = True := eq_true (okN_eqOk h)
section
variable {n : Nat} {d : D} {xs : List D} {i : Int} {b : Bool}
theorem okN_non : okN n .non = True := by simp only [okN]
theorem okN_int : okN n (.int i) = True := by simp only [okN]
theorem okN_bl : okN n (.bl b) = True := by simp only [okN]
theorem okN_tup : okN n (.tup xs) = (0 < n ∧ okL (n - 1) xs) := by simp only [okN]
theorem okN_lst : okN n (.lst xs) = (0 < n ∧ okL (n - 1) xs) := by simp only [okN]
theorem okL_nil : okL n [] = True := by simp only [okL]
theorem okL_cons : okL n (d :: xs) = (okN n d ∧ okL n xs) := by simp only [okL]
end
/-! == of unlike kinds -/
section
variable {i j : Int} {b : Bool} {s : Str} {xs ys : List D}
theorem fEq_it : fEq (.int i) (.tup xs) = some ((D.int i).eqOk ∧ (D.tup xs).eqOk, .bl (eqD (.int i) (.tup xs))) := rfl
theorem fEq_ti : fEq (.tup xs) (.int i) = some ((D.tup xs).eqOk ∧ (D.int i).eqOk, .bl (eqD (.tup xs) (.int i))) := rfl
theorem fEq_in : fEq (.int i) .non = some ((D.int i).eqOk ∧ D.non.eqOk, .bl (eqD (.int i) .non)) := rfl
theorem fEq_ni : fEq .non (.int i) = some (D.non.eqOk ∧ (D.int i).eqOk, .bl (eqD .non (.int i))) := rfl
theorem fNe_in : fNe (.int i) .non = some ((D.int i).eqOk ∧ D.non.eqOk, .bl (!eqD (.int i) .non)) := rfl
theorem fNe_ni : fNe .non (.int i) = some (D.non.eqOk ∧ (D.int i).eqOk, .bl (!eqD .non (.int i))) := rfl
end
end L2.G

namespace L2.G
open PySem PySem.Spec PyProof.Rows

/-! is, is not of truth values -/
def bIs (a b : Bool) : Bool := decide (a = b)
theorem bIs_t {a : Bool} : bIs a true = a := by cases a <;> rfl
theorem bIs_f {a : Bool} : bIs a false = !a := by cases a <;> rfl
theorem bIs_s {a : Bool} : bIs a a = true := by cases a <;> rfl
def fIs : D → D → PD | .bl i, .bl j => some (True, .bl (bIs i j)) | _, _ => none
def fIsn : D → D → PD | .bl i, .bl j => some (True, .bl (!bIs i j)) | _, _ => none
theorem fIs_bl {i j : Bool} : fIs (.bl i) (.bl j) = some (True, .bl (bIs i j)) := rfl
theorem fIsn_bl {i j : Bool} : fIsn (.bl i) (.bl j) = some (True, .bl (!bIs i j)) := rfl
section
variable {X : Cx} {a b e : Expr} {fa fb fe : dE} {pos : Pos}
end

/-! xs[::-1] of lists and tuples -/
section
variable {prog : Program} {w : World} {A : Around} {E : Value → Shared → Prop} {s : Shared}
end

section
variable {X : Cx} {e : Expr} {fe : dE}
def D.rev? : D → Option D | .lst xs => some (.lst xs.reverse) | .scr xs => some (.lst xs.reverse) | .tup xs => some (.tup xs.reverse) | _ => none
theorem rev_lst {xs : List D} : D.rev? (.lst xs) = some (.lst xs.reverse) := rfl
theorem rev_scr {xs : List D} : D.rev? (.scr xs) = some (.lst xs.reverse) := rfl
theorem rev_tup {xs : List D} : D.rev? (.tup xs) = some (.tup xs.reverse) := rfl
def dRev (fe : dE) : dE := fun ρ T k => fe ρ T fun x T1 => match x.rev? with | some d => k d T1 | none => False
theorem h_rev {ρ : En} {T : Tk} {k : KD} : dRev fe ρ T k = fe ρ T fun x T1 => opK x.rev? fun d => k d T1 := propext Iff.rfl
end

/-! x = [.. for ..], x a list that this def will change -/
section
variable {X : Cx} {tg : Expr} {pos : Pos}
def sLcO (i : Nat) (vs : List Nat) (fi : dI) (c : dC1) (tt : dT) (el : dE) : dS := fun k ρ T => fi ρ T fun xs T1 => lcD (wipeD ρ vs) c tt el (fun acc T2 => k.nx (ρ.set i (some (.own acc))) T2) xs [] T1
theorem h_lcO {i : Nat} {vs : List Nat} {fi : dI} {c : dC1} {ta : dT} {el : dE} {K : dEnds} {ρ : En} {T : Tk} : sLcO i vs fi c ta el K ρ T = fi ρ T fun xs T1 => setE (wipeD ρ vs) fun ρ' => lcK ρ' c ta el (fun acc T2 => setE (ρ.set i (some (.own acc))) fun ρ => K.nx ρ T2) xs [] T1 := propext Iff.rfl
end

/-! {} and {"x": e}: dicts that are only handed on -/
section
variable {X : Cx} {e : Expr} {fe : dE} {pos p1 : Pos} {j : Nat}
def dDct0 : dE := fun _ T k => k (.dct [] []) T
theorem h_dct0 {ρ : En} {T : Tk} {k : KD} : dDct0 ρ T k = k (.dct [] []) T := propext Iff.rfl
theorem d_dct0 : PEd X (.Dict [] [] pos) dDct0 := by
  refine pe_imp pe_dnewK fun σ H Q h => ?_
  obtain ⟨ρ, T, t, F, k, w, h, f⟩ := h
  exact fun p hp => f.dct0 w.wt hp h
def dDct1 (x : Str) (fe : dE) : dE := fun ρ T k => fe ρ T fun d T1 => k (.dct [.inr x] [d]) T1
theorem h_dct1 {x : Str} {ρ : En} {T : Tk} {k : KD} : dDct1 x fe ρ T k = fe ρ T fun d T1 => k (.dct [.inr x] [d]) T1 := propext Iff.rfl
end
theorem isTy_dct {T : Ty} {ks : List Key} {ds : List D} : isTy T (.dct ks ds) = some false := by cases T <;> rfl
theorem isNon_dct {ks : List Key} {ds : List D} : (D.dct ks ds).isNon = false := rfl
end L2.G

namespace L2.G
open PySem PySem.Spec PyProof.Rows
/-! the greatest of a list of ints -/
def mxL (n : Int) (r : List Int) : Int := r.foldl (fun a b => if b > a then b else a) n
def mxR : Option (List Int) → PD | some (n :: r) => some (True, .int (mxL n r)) | _ => none
def fMaxL : List D → PD | [.lst xs] => mxR (nums? xs) | _ => none
theorem fMaxL_lst {xs : List D} : fMaxL [.lst xs] = mxR (nums? xs) := rfl
theorem mxR_some {n : Int} {r : List Int} : mxR (some (n :: r)) = some (True, .int (mxL n r)) := rfl
section
variable {X : Cx} {a b e : Expr} {fa fb fe : dE} {fr : dA} {p pos : Pos} {n : Nat} {es : List Expr} {tg : Expr}
end
end L2.G

namespace L2.G
open PySem PySem.Spec PyProof.Rows
/-! arguments by name, in another order -/
def pmC {α : Type} (o : Option α) (r : List α) : List α := match o with | some x => x :: r | none => r
def permL {α : Type} : List Nat → List α → List α
  | [], _ => []
  | i :: is, xs => pmC xs[i]? (permL is xs)
section
variable {X : Cx} {CX : CXT} {n : Nat} {f : Addr} {fd : FuncData} {ps ks : List Str} {sp : Sp} {E : XK} {x : Str} {p pos : Pos} {kws : List Keyword} {tk : TA}
end
section
variable {X : Cx} {n : Nat} {x : Str} {ps ks : List Str} {sem : Sem} {p pos : Pos} {kws : List Keyword} {fr : dA} {st : Stmt} {is : List Nat}
def dCallP (n : Nat) (is : List Nat) (sem : Sem) (fr : dA) : dE := fun ρ T k => fr ρ T fun as T1 => as.length = n ∧ (permL is as).length = n ∧ sem (permL is as) T1 k
end
/-! the walker -/
def callP (n : Nat) (is : List Nat) (s : Sem) (as : List SV) (T : Tk) (k : KD) (fz : Fz k := ⟨⟩) : Prop := as.length = n ∧ (permL is as).length = n ∧ s (permL is as) T k
theorem h_callP {n : Nat} {is : List Nat} {s : Sem} {fr : dA} {ρ : En} {T : Tk} {k : KD} : dCallP n is s fr ρ T k = fr ρ T fun as T1 => callP n is s as T1 k := propext Iff.rfl
theorem callP_go {n : Nat} {is : List Nat} {s : Sem} {as : List SV} {T : Tk} {k : KD} : callP n is s as T k = (as.length = n ∧ (permL is as).length = n ∧ callS s (permL is as) T k) := propext Iff.rfl
theorem permL_n {α : Type} {xs : List α} : permL [] xs = [] := rfl
theorem permL_c {α : Type} {i : Nat} {is : List Nat} {xs : List α} : permL (i :: is) xs = pmC xs[i]? (permL is xs) := rfl
theorem pmC_s {α : Type} {x : α} {r : List α} : pmC (some x) r = x :: r := rfl
end L2.G

namespace L2.G
open PySem PySem.Spec PyProof.Rows
/-! sorted lists of tuples of ints, of either sign: over the library's sort of tuples by their keys -/
/-! over data -/
def tI (ns : List Int) : D := .tup (ns.map D.int)
/-- the order of tuples of one length -/
def lexLt : List Int → List Int → Bool
  | a :: r, b :: q => if a < b then true else if b < a then false else lexLt r q
  | _, _ => false
def insL (x : List Int) : List (List Int) → List (List Int)
  | [] => [x]
  | y :: r => if lexLt y x then y :: insL x r else x :: y :: r
def isort : List (List Int) → List (List Int)
  | [] => []
  | x :: r => insL x (isort r)
/-! the library's key of a tuple of ints -/
abbrev noS : Nat → Bool := fun _ => false
section
variable {X : Cx} {pins : List (Addr × Obj)} {σ : L2.St} {H : Hp} {s : Shared}
end
def tups? : List D → Option (List (List Int))
  | [] => some []
  | .tup xs :: r => match nums? xs, tups? r with | some n, some m => some (n :: m) | _, _ => none
  | _ :: _ => none
def TupsD (nss : List (List Int)) : Prop := nss.length < 64 ∧ ∃ d, 1 ≤ d ∧ ∀ n ∈ nss, n.length = d
def stR : Option (List (List Int)) → PD | some nss => some (TupsD nss, .lst ((isort nss).map tI)) | none => none
def fSortT : List D → PD | [.lst xs] => stR (tups? xs) | _ => none
theorem fSortT_lst {xs : List D} : fSortT [.lst xs] = stR (tups? xs) := rfl
theorem stR_some {n : List (List Int)} : stR (some n) = some (TupsD n, .lst ((isort n).map tI)) := rfl
theorem tups_some : ∀ {ds : List D} {nss : List (List Int)}, tups? ds = some nss → ds = nss.map tI
  | [], nss, e => by cases e; rfl
  | d :: ds, nss, e => by
    have ih := fun cs => tups_some (ds := ds) (nss := cs)
    cases d with
    | tup xs =>
      unfold tups? at e
      cases e1 : nums? xs with
      | none => rw [e1] at e; cases e
      | some n =>
        cases e2 : tups? ds with
        | none => rw [e1, e2] at e; cases e
        | some m =>
          rw [e1, e2] at e
          cases e
          rw [ih m e2, nums_some e1]
          rfl
    | _ => exact absurd e (by simp [tups?])
theorem tups_inv {K : PySem.W.Frag} {F : Hp} : ∀ {nss : List (List Int)} {vs : List V}, RepL K F (nss.map tI) vs → ∃ L : List (Addr × List Int), vs = L.map (fun p => V.ref p.1) ∧ nss = L.map (·.2) ∧ ∀ p ∈ L, SqT K F p.1 (p.2.map V.int)
  | [], _, r => by cases r; exact ⟨[], rfl, rfl, fun p h => nomatch h⟩
  | n :: nss, _, r => by
    cases r with
    | cons r q =>
      obtain ⟨L, h1, h2, h3⟩ := tups_inv q
      obtain ⟨a, xs, rfl, h, r⟩ := rep_tup r
      have e := nums_inv r
      subst e
      refine ⟨(a, n) :: L, by rw [h1]; rfl, by rw [h2]; rfl, fun p hp => ?_⟩
      rcases List.mem_cons.mp hp with e | hp
      · rw [e]; exact h
      · exact h3 p hp
theorem tups_rep {K : PySem.W.Frag} {F : Hp} {ds : List D} {vs : List V} {nss : List (List Int)} (r : RepL K F ds vs) (e : tups? ds = some nss) : ∃ L : List (Addr × List Int), vs = L.map (fun p => V.ref p.1) ∧ nss = L.map (·.2) ∧ ∀ p ∈ L, SqT K F p.1 (p.2.map V.int) := by
  rw [tups_some e] at r
  exact tups_inv r
section
variable {X : Cx} {e : Expr} {fr : dA} {p pos : Pos} {es : List Expr}
end
/-! bit_length -/
def bitI (i : Int) : Int := (Builtin.Int.intBits i : Nat)
def fBitL : D → D → PD | .int i, _ => some (True, .int (bitI i)) | _, _ => none
theorem fBitL_int {i : Int} {d : D} : fBitL (.int i) d = some (True, .int (bitI i)) := rfl
/-! short lists -/
theorem tups_nil : tups? [] = some [] := rfl
def tpC : Option (List Int) → Option (List (List Int)) → Option (List (List Int)) | some n, some m => some (n :: m) | _, _ => none
theorem tups_c {xs r : List D} : tups? (.tup xs :: r) = tpC (nums? xs) (tups? r) := rfl
theorem tpC_some {n : List Int} {m : List (List Int)} : tpC (some n) (some m) = some (n :: m) := rfl
end L2.G

namespace L2.G
open PySem PySem.Spec PyProof.Rows
/-! a call whose first arguments stand by place and whose later ones by name -/
def aApp (m n : Nat) (f g : dA) : dA := fun ρ T k => f ρ T fun as T1 => g ρ T1 fun bs T2 => as.length = m ∧ bs.length = n ∧ k (as ++ bs) T2
section
variable {X : Cx} {CX : CXT} {n m : Nat} {f : Addr} {fd : FuncData} {ps ks : List Str} {sp : Sp} {E : XK} {x : Str} {p pos : Pos} {e : Expr} {es : List Expr} {kws : List Keyword} {t tk : TA}
end
section
variable {X : Cx} {n m : Nat} {x : Str} {ps ks : List Str} {sem : Sem} {p pos : Pos} {e : Expr} {es : List Expr} {kws : List Keyword} {fa fr : dA} {st : Stmt} {is : List Nat}
end
/-! the walker -/
theorem h_aApp {m n : Nat} {f g : dA} {ρ : En} {T : Tk} {k : List SV → Tk → Prop} : aApp m n f g ρ T k = f ρ T fun as T1 => g ρ T1 fun bs T2 => as.length = m ∧ bs.length = n ∧ k (as ++ bs) T2 := propext Iff.rfl
end L2.G

namespace L2.G
open PySem PySem.Spec PyProof.Rows
/-! x, y = [..], a where x's list is its own -/
section
variable {X : Cx} {a : Expr} {es : List Expr} {fa : dE} {fr : dA} {pos : Pos}
def sParF (i j : Nat) (fr : dA) (fa : dE) : dS := fun k ρ T => fr ρ T fun as T1 => match vals? as with | some ds => ds.length ≤ 1000000 ∧ fa ρ T1 fun d T2 => k.nx ((ρ.set i (some (.own ds))).set j (some (.val d))) T2 | none => False
end
/-! the walker -/
theorem h_parF {i j : Nat} {fa : dE} {fr : dA} {K : dEnds} {ρ : En} {T : Tk} : sParF i j fr fa K ρ T = fr ρ T fun as T1 => sqK (vals? as) fun ds => ds.length ≤ 1000000 ∧ fa ρ T1 fun d T2 => setE ((ρ.set i (some (.own ds))).set j (some (.val d))) fun ρ => K.nx ρ T2 := propext Iff.rfl
end L2.G

namespace L2.G
open PySem PySem.Spec PyProof.Rows
/-! the head: what the top leaves, read by one run off the tree (nothing of the top is written out) -/
/-- the value u is the data d; g tells the object at an address -/
def repB (g : Addr → Option Obj) : Nat → D → Value → Bool
  | 0, _, _ => false
  | _ + 1, .int i, .int j _ => decide (i = j)
  | _ + 1, .str i, .str j _ => decide (i = j)
  | _ + 1, .bl i, .bool j => i == j
  | _ + 1, .non, .none => true
  | n + 1, .tup ds, .ref a => (match g a with
    | some ⟨.type c, _, .seq its _, _⟩ => decide (c = "tuple") && (Nat.ble its.size 1000000 && (Nat.beq ds.length its.toList.length && (ds.zip its.toList).all fun p => repB g n p.1 p.2))
    | _ => false)
  | _ + 1, _, _ => false
/-- the objects within a value -/
def inV (g : Addr → Option Obj) : Nat → Value → List Addr
  | 0, _ => []
  | n + 1, .ref a => a :: (match g a with
    | some ⟨_, _, .seq its _, _⟩ => its.toList.flatMap (inV g n)
    | _ => [])
  | _ + 1, _ => []
theorem repB_l {g : Addr → Option Obj} {K : PySem.W.Frag} {n : Nat} (ih : ∀ {d : D} {u : Value}, (∀ a ∈ inV g n u, ∀ o, g a = some o → K.lookup a = some o) → repB g n d u = true → GRep K d u) : ∀ {ds : List D} {us : List Value}, (∀ a ∈ us.flatMap (inV g n), ∀ o, g a = some o → K.lookup a = some o) → ds.length = us.length → ((ds.zip us).all fun p => repB g n p.1 p.2) = true → GRepL K ds us
  | [], [], _, _, _ => .nil
  | [], _ :: _, _, e, _ => by simp at e
  | _ :: _, [], _, e, _ => by simp at e
  | d :: ds, u :: us, k, e, h => by
    rw [List.zip_cons_cons, List.all_cons, Bool.and_eq_true] at h
    rw [List.flatMap_cons] at k
    exact .cons (ih (fun a q => k a (List.mem_append.mpr (.inl q))) h.1) (repB_l ih (fun a q => k a (List.mem_append.mpr (.inr q))) (by simpa using e) h.2)
theorem repB_ok {g : Addr → Option Obj} {K : PySem.W.Frag} : ∀ {n : Nat} {d : D} {u : Value}, (∀ a ∈ inV g n u, ∀ o, g a = some o → K.lookup a = some o) → repB g n d u = true → GRep K d u
  | 0, _, _, _, h => nomatch h
  | n + 1, d, u, k, h => by
    have ih := fun {d u} => repB_ok (g := g) (K := K) (n := n) (d := d) (u := u)
    cases d with
    | int i =>
      cases u with
      | int j t => have e : i = j := of_decide_eq_true h; subst e; exact .int _ _
      | _ => exact nomatch h
    | str i =>
      cases u with
      | str j t => have e : i = j := of_decide_eq_true h; subst e; exact .str _ _
      | _ => exact nomatch h
    | bl i =>
      cases u with
      | bool j => have e : i = j := eq_of_beq h; subst e; exact .bl _
      | _ => exact nomatch h
    | non =>
      cases u with
      | none => exact .non
      | _ => exact nomatch h
    | tup ds =>
      cases u with
      | ref a =>
        have h1 : (match g a with
          | some ⟨.type c, _, .seq its _, _⟩ => decide (c = "tuple") && (Nat.ble its.size 1000000 && (Nat.beq ds.length its.toList.length && (ds.zip its.toList).all fun p => repB g n p.1 p.2))
          | _ => false) = true := h
        have k1 : ∀ b ∈ a :: (match g a with
          | some ⟨_, _, .seq its _, _⟩ => its.toList.flatMap (inV g n)
          | _ => []), ∀ o, g b = some o → K.lookup b = some o := k
        cases q : g a with
        | none => rw [q] at h1; cases h1
        | some o =>
          have q2 := k1 a List.mem_cons_self o q
          obtain ⟨oc, od, dt, osl⟩ := o
          rw [q] at h1 k1
          cases oc with
          | type c =>
            cases dt with
            | seq its m =>
              have h2 : (decide (c = "tuple") && (Nat.ble its.size 1000000 && (Nat.beq ds.length its.toList.length && (ds.zip its.toList).all fun p => repB g n p.1 p.2))) = true := h1
              simp only [Bool.and_eq_true] at h2
              obtain ⟨a1, a2, a3, a4⟩ := h2
              have e := of_decide_eq_true a1
              subst e
              exact .tup q2 (repB_l ih (fun b qb => k1 b (List.mem_cons_of_mem _ qb)) (Nat.eq_of_beq_eq_true a3) a4) (Nat.le_of_ble_eq_true a2)
            | _ => cases h1
          | _ => cases dt <;> cases h1
      | _ => exact nomatch h
    | _ => cases u <;> exact nomatch h
/-! dicts of the module whose keys are tuples of ints, whose values are ints -/
def thI (k : List Int) : Int := reduceHash (Builtin.Tuple.tupleHashOf (k.map hashInt))
/-- an entry as it lies: key, its tuple's address, value -/
abbrev GE := List Int × Addr × Int × Tok
def geE (y : GE) : DictEntry := ⟨thI y.1, .ref y.2.1, .int y.2.2.1 y.2.2.2⟩
def entB (g : Addr → Option Obj) (c : List Int × Int) (e : DictEntry) : Bool := decide (e.hash = thI c.1) && (repB g 3 (tI c.1) e.key && (match e.val with
  | .int j _ => decide (j = c.2)
  | _ => false))
theorem entB_l {g : Addr → Option Obj} {K : PySem.W.Frag} : ∀ {kvs : List (List Int × Int)} {es : List DictEntry}, (∀ e ∈ es, ∀ a ∈ inV g 3 e.key, ∀ o, g a = some o → K.lookup a = some o) → kvs.length = es.length → ((kvs.zip es).all fun p => entB g p.1 p.2) = true →
    ∃ L : List GE, es = L.map geE ∧ (∀ y ∈ L, GRep K (tI y.1) (.ref y.2.1)) ∧ L.map (fun y => (y.1, y.2.2.1)) = kvs
  | [], [], _, _, _ => ⟨[], rfl, fun _ h => (nomatch h), rfl⟩
  | [], _ :: _, _, e, _ => by simp at e
  | _ :: _, [], _, e, _ => by simp at e
  | c :: kvs, e :: es, h, hl, hb => by
    rw [List.zip_cons_cons, List.all_cons, Bool.and_eq_true] at hb
    obtain ⟨L, h1, h2, h3⟩ := entB_l (fun e he => h e (List.mem_cons_of_mem _ he)) (by simpa using hl) hb.2
    obtain ⟨hh, key, val⟩ := e
    have b := hb.1
    unfold entB at b
    simp only [Bool.and_eq_true, decide_eq_true_eq] at b
    obtain ⟨b1, b2, b3⟩ := b
    have r := repB_ok (g := g) (K := K) (fun a ha o ho => h _ List.mem_cons_self a ha o ho) b2
    cases val with
    | int j t =>
      have b4 : j = c.2 := of_decide_eq_true b3
      unfold tI at r
      cases r with
      | tup q1 q2 q3 =>
        refine ⟨(c.1, _, j, t) :: L, by rw [h1, List.map_cons]; show _ = geE (c.1, _, j, t) :: _; unfold geE; rw [← b1], fun y hy => ?_, by rw [List.map_cons, h3, b4]⟩
        rcases List.mem_cons.mp hy with rfl | hy
        · unfold tI; exact .tup q1 q2 q3
        · exact h2 y hy
    | _ => cases b3
/-- what is read: defs, names that stand for no name of the module, built-ins that were brought in, constants -/
structure Hd where
  defs : List (Str × Stmt)
  free : List Str
  blt : List (Str × String)
  cons : List (Str × D)
  cls : List Str := []
  prs : List (Str × Str) := []
  /-- classes with an own __init__: name, field, qualified name, the def -/
  ini : List (Str × Str × Str × Stmt) := []
  /-- classes whose instances isinstance asks -/
  exs : List Str := []
  kis : List (Str × Str × Bool) := []
  kib : List (Str × String × Bool) := []
  /-- the dict of all modules stands where it does -/
  sys : Bool := false
  /-- the defs that make lambdas -/
  lam : List Str := []
  /-- dicts of tuples of ints to ints -/
  tab : List (Str × List (List Int × Int)) := []
def hdD (d : Str × Stmt) : He.FnD := ⟨(d.1, none), d.1, d.1, defArgs d.2, defBody d.2, defScope d.2⟩
def lkE (es : List DictEntry) (x : Str) : Option Value := (es.find? (·.key.isStr x)).map (·.val)
def codB (g : Addr → Option Obj) (cd : Value) (q : Str) : Bool := match cd with
  | .ref c => (match g c with
    | some ⟨_, _, .fields vs, _⟩ => (match vs.toList with
      | _ :: .str n _ :: _ => n == q
      | _ => false)
    | _ => false)
  | _ => false
/-- a def as the heap has it -/
def defV (g : Addr → Option Obj) (es : List DictEntry) (x : Str) : Bool × He.FnV := match lkE es x with
  | some (.ref f) => (match g f with
    | some ⟨_, _, .func fd, _⟩ => (codB g fd.code x, some (fd.name, fd.qualname, fd.params, fd.body, fd.scope, fd.globals, fd.closure, fd.defaults, fd.builtins))
    | _ => (false, none))
  | _ => (false, none)
def bltB (es : List DictEntry) (x : Str × String) : Bool := match lkE es x.1 with
  | some (.builtin m) => decide (m = x.2)
  | _ => false
def conB (g : Addr → Option Obj) (es : List DictEntry) (c : Str × D) : Bool := match lkE es c.1 with
  | some u => repB g 9 c.2 u
  | none => false
def adV : Value → List Addr
  | .ref a => [a]
  | _ => []
def gtB (g : Addr → Option Obj) (es : List DictEntry) (c : Str × List (List Int × Int)) : Bool := match lkE es c.1 with
  | some (.ref a) => !(a == sysModules) && (match g a with
    | some ⟨.type t, none, .dict es2 _, sl⟩ => decide (t = "dict") && (sl.toList.isEmpty && (Nat.beq c.2.length es2.toList.length && (c.2.zip es2.toList).all fun p => entB g p.1 p.2))
    | _ => false)
  | _ => false
/-- the tuples that are keys -/
def keyAs (g : Addr → Option Obj) (a : Addr) : List Addr := match g a with
  | some ⟨_, _, .dict es2 _, _⟩ => es2.toList.flatMap fun e => inV g 3 e.key
  | _ => []
/-- the addresses that the facts lean on -/
def asOf (g : Addr → Option Obj) (es : List DictEntry) : List Addr := mainGlobals :: (es.flatMap fun e => adV e.val ++ ((adV e.val).flatMap fun f => match g f with
  | some ⟨_, _, .func fd, _⟩ => adV fd.code
  | _ => []) ++ (inV g 9 e.val ++ (adV e.val).flatMap (keyAs g)))
/-- the addresses of own classes -/
def clsAs1 (g : Addr → Option Obj) (es : List DictEntry) (x : Str) : List Addr := match lkE es x with
  | some (.ref C) => (match g C with
    | some ⟨_, _, .cls cd, _⟩ => C :: cd.ns :: (cd.mro.flatMap fun v => (match v with
      | .ref A => A :: (match g A with
        | some ⟨_, _, .cls cd2, _⟩ => [cd2.ns]
        | _ => [])
      | _ => [])) ++ (match g cd.ns with
        | some ⟨_, _, .dict es2 _, _⟩ => (match lkE es2.toList "__init__" with
          | some (.ref f) => f :: (match g f with
            | some ⟨_, _, .func fd, _⟩ => adV fd.code
            | _ => [])
          | _ => [])
        | _ => [])
    | _ => [])
  | _ => []
def clsAs (g : Addr → Option Obj) (es : List DictEntry) (cls : List Str) : List Addr := cls.flatMap (clsAs1 g es)
/-- an own class without own __init__ over ValueError -/
def xcB (K : PySem.W.Frag) (C : Addr) : Bool := PySem.W.excIn K C PySem.HandSPX.veTail "ValueError.__new__" && (PySem.W.keepIn K (.ref C) && (PySem.W.subIn K (.ref C) (.type "BaseException") == some true && PySem.W.typeIn K (.ref C) == some (.type "type")))
def xcE (K : PySem.W.Frag) (es : List DictEntry) (x : Str) : Bool := match lkE es x with
  | some (.ref C) => xcB K C
  | _ => false
def prE (K : PySem.W.Frag) (es : List DictEntry) (p : Str × Str) : Bool := match lkE es p.1, lkE es p.2 with
  | some u, some (.ref C) => PySem.W.exmOne K u (.ref C) == some true
  | _, _ => false
/-- an own class with an own __init__ over ValueError -/
def xgC (K : PySem.W.Frag) (C : Addr) : Bool := match K.lookup C with
  | some ⟨.type "type", _, .cls cd, sl⟩ => (match cd.mro, sl.toList with
    | .ref C' :: bm, [_, _, _, _, some (.builtin n), _] => C' == C && n == "ValueError.__new__" && !cd.hasDel && cd.hasDict && PySem.HandSPX.refsVE bm
    | _, _ => false)
  | _ => false
def xgB (K : PySem.W.Frag) (C : Addr) (fl : Str) (f : Addr) : Bool := xgC K C && (PySem.W.findIn K (.ref C) "__setattr__" == some (some (.builtin "object.__setattr__")) &&
  (PySem.W.findIn K (.ref C) "__getattribute__" == some (some (.builtin "BaseException.__getattribute__")) && (PySem.W.findIn K (.ref C) "__getattr__" == some none && (PySem.W.findIn K (.ref C) fl == some none &&
  (PySem.W.findIn K (.ref C) "__init__" == some (some (.ref f)) && (PySem.W.typeIn K (.ref f) == some (.type "function") && (PySem.W.keepIn K (.ref C) && (PySem.W.subIn K (.ref C) (.type "BaseException") == some true &&
  (PySem.W.typeIn K (.ref C) == some (.type "type") && (PySem.W.hasDictIn K C && PySem.W.exmOne K (.ref C) (.ref C) == some true))))))))))
/-- a class whose instances isinstance asks -/
def exB (K : PySem.W.Frag) (C : Addr) : Bool := PySem.W.findIn K (.ref C) "__getattribute__" == some (some (.builtin "BaseException.__getattribute__")) && (PySem.W.findIn K (.ref C) "__getattr__" == some none &&
  (PySem.W.subIn K (.ref C) (.type "BaseException") == some true && (PySem.W.hasDictIn K C && (PySem.W.findIn K (.ref C) "__class__" == some (some (.builtin "object.__class__")) &&
  (PySem.W.specialIn K (.builtin "object.__class__") "__get__" == some (some (.builtin "getset_descriptor.__get__")) && (PySem.W.takesIn K (.builtin "object.__class__") == some true && PySem.W.mroIn K C (.type "object") == some true))))))
def exE (K : PySem.W.Frag) (es : List DictEntry) (x : Str) : Bool := match lkE es x with
  | some (.ref C) => exB K C
  | _ => false
def kisE (K : PySem.W.Frag) (es : List DictEntry) (p : Str × Str × Bool) : Bool := match lkE es p.1, lkE es p.2.1 with
  | some u, some (.ref C) => PySem.W.kitOne K u (.ref C) == some p.2.2
  | _, _ => false
def kibE (K : PySem.W.Frag) (es : List DictEntry) (p : Str × String × Bool) : Bool := match lkE es p.1 with
  | some u => PySem.W.kitOne K u (.type p.2.1) == some p.2.2
  | _ => false
/-- the __init__ of a class as the heap has it -/
def iniV (K : PySem.W.Frag) (es : List DictEntry) (i : Str × Str × Str × Stmt) : Bool × He.FnV := match lkE es i.1 with
  | some (.ref C) => (match PySem.W.findIn K (.ref C) "__init__" with
    | some (some (.ref f)) => (match K.lookup f with
      | some ⟨_, _, .func fd, _⟩ => (xgB K C i.2.1 f && PySem.W.codeIn K fd.code i.2.2.1, some (fd.name, fd.qualname, fd.params, fd.body, fd.scope, fd.globals, fd.closure, fd.defaults, fd.builtins))
      | _ => (false, none))
    | _ => (false, none))
  | _ => (false, none)
def iniD (i : Str × Str × Str × Stmt) : He.FnV := some (("__init__" : Str), i.2.2.1, defArgs i.2.2.2, .stmts (defBody i.2.2.2), defScope i.2.2.2, mainGlobals, [], .none, builtinsNs)
abbrev HdA : Type := Bool × List (Bool × He.FnV)
def sysB (K : PySem.W.Frag) : Bool := match K.lookup sysModules with
  | some ⟨.type c, _, _, _⟩ => decide (c = "dict")
  | _ => false
def stB : Value → Bool | .str _ _ => true | _ => false
def itB : Value → Bool | .int _ _ => true | _ => false
def boB : Value → Bool | .bool _ => true | _ => false
def reB (P : Addr) : Value → Bool | .ref b => Nat.beq b P | _ => false
/-- the code object at c, whose table is at P -/
def codeB (K : PySem.W.Frag) (c P : Addr) : Bool := match K.lookup c with
  | some ⟨.type k, _, .fields vs, _⟩ => decide (k = "code") && ((match (vs[11]? : Option Value) with | some v => reB P v | none => false) && (reB P (vs.getD 11 .none) && (stB (vs.getD 18 .none) && (itB (vs.getD 7 .none) && (boB (vs.getD 9 .none) && (itB (vs.getD 10 .none) && !Nat.beq c P))))))
  | _ => false
/-- the module of the built-ins -/
def bmB (K : PySem.W.Frag) (P : Addr) : Bool := match PySem.W.nsIn K mainGlobals "__builtins__" with
  | some (some (.ref bm)) => !Nat.beq bm builtinsNs && (!Nat.beq bm mainGlobals && (!Nat.beq bm P && (match K.lookup bm with
    | some ⟨.type m, some d, .plain, _⟩ => decide (m = "module") && Nat.beq d builtinsNs
    | _ => false)))
  | _ => false
def lamB (K : PySem.W.Frag) (x : Str) : Bool := match PySem.W.nsIn K mainGlobals x with
  | some (some (.ref f)) => (match K.lookup f with
    | some ⟨_, _, .func fd, _⟩ => (match fd.code with
      | .ref c => (match tabOf K x with
        | some (P, _) => codeB K c P && (bmB K P && ((K.lookup P).isNone && !Nat.beq mainGlobals P))
        | none => false)
      | _ => false)
    | _ => false)
  | _ => false
def ndB : List Addr → Bool
  | [] => true
  | a :: r => r.all (fun b => !Nat.beq a b) && ndB r
def lamsB (z : Hd) (K : PySem.W.Frag) : Bool := z.lam.isEmpty || (z.lam.all (lamB K) && ndB ((tabsOf K).map (·.1)))
/-- an empty table -/
def tabE : Option Obj → Bool
  | some ⟨.none, none, .fields vs, sl⟩ => vs.toList.isEmpty && sl.toList.isEmpty
  | _ => false
def tabsE (z : Hd) (g : Addr → Option Obj) (K : PySem.W.Frag) : Bool := z.lam.isEmpty || (tabsOf K).all fun p => tabE (g p.1)
def Hd.obsK (z : Hd) (g : Addr → Option Obj) (es : List DictEntry) (K : PySem.W.Frag) : HdA :=
  (!es.any (·.refKey) && (z.free.all (fun x => (lkE es x).isNone) && (z.blt.all (bltB es) && (z.cons.all (conB g es) && (z.tab.all (gtB g es) && (z.cls.all (xcE K es) && (z.prs.all (prE K es) && (z.exs.all (exE K es) && (z.kis.all (kisE K es) && (z.kib.all (kibE K es) && ((!z.sys || sysB K) && (lamsB z K && tabsE z g K))))))))))), (z.defs.map fun d => defV g es d.1) ++ z.ini.map (iniV K es))
def Hd.obsE (z : Hd) (g : Addr → Option Obj) (es : List DictEntry) : HdA := z.obsK g es (He.frG g (sysModules :: clsAs g es (z.cls ++ z.exs) ++ asOf g es))
def Hd.obsG (z : Hd) (g : Addr → Option Obj) : HdA := match g mainGlobals with
  | some ⟨_, _, .dict es _, _⟩ => z.obsE g es.toList
  | _ => (false, [])
def Hd.val (z : Hd) : HdA := (true, (z.defs.map fun d => (true, (hdD d).val)) ++ z.ini.map fun i => (true, iniD i))
/-- a def stands in the module -/
def DefK (K : PySem.W.Frag) (d : Str × Stmt) : Prop := ∃ (f : Addr) (oc : Value) (od : Option Addr) (osl : Array (Option Value)) (kV doc pm : Value) (an : Option Addr) (cdv ct : Value), PySem.W.nsIn K mainGlobals d.1 = some (some (.ref f)) ∧
  K.lookup f = some ⟨oc, od, .func (PySem.W.fnOf d.1 d.1 (defArgs d.2) (defBody d.2) (defScope d.2) .none kV doc pm an cdv ct), osl⟩ ∧ PySem.W.codeIn K cdv d.1 = true
structure Hd.Says (z : Hd) (K : PySem.W.Frag) : Prop where
  d : ∀ d ∈ z.defs, DefK K d
  f : ∀ x ∈ z.free, PySem.W.nsIn K mainGlobals x = some none
  b : ∀ x ∈ z.blt, PySem.W.nsIn K mainGlobals x.1 = some (some (.builtin x.2))
  c : ∀ c ∈ z.cons, ∃ u, PySem.W.nsIn K mainGlobals c.1 = some (some u) ∧ GRep K c.2 u
  g : ∀ c ∈ z.tab, ∃ (a : Addr) (es : Array DictEntry) (n : Nat) (L : List GE), PySem.W.nsIn K mainGlobals c.1 = some (some (.ref a)) ∧ (a == sysModules) = false ∧ K.lookup a = some ⟨.type "dict", none, .dict es n, #[]⟩ ∧
    es.toList = L.map geE ∧ (∀ y ∈ L, GRep K (tI y.1) (.ref y.2.1)) ∧ L.map (fun y => (y.1, y.2.2.1)) = c.2
  x : ∀ x ∈ z.cls, ∃ C, PySem.W.nsIn K mainGlobals x = some (some (.ref C)) ∧ xcB K C = true
  p : ∀ p ∈ z.prs, ∃ u C, PySem.W.nsIn K mainGlobals p.1 = some (some u) ∧ PySem.W.nsIn K mainGlobals p.2 = some (some (.ref C)) ∧ PySem.W.exmOne K u (.ref C) = some true
  i : ∀ i ∈ z.ini, ∃ (C f : Addr) (oc : Value) (od : Option Addr) (osl : Array (Option Value)) (kV doc pm : Value) (an : Option Addr) (cdv ct : Value), PySem.W.nsIn K mainGlobals i.1 = some (some (.ref C)) ∧ xgB K C i.2.1 f = true ∧
    K.lookup f = some ⟨oc, od, .func (PySem.W.fnOf "__init__" i.2.2.1 (defArgs i.2.2.2) (defBody i.2.2.2) (defScope i.2.2.2) .none kV doc pm an cdv ct), osl⟩ ∧ PySem.W.codeIn K cdv i.2.2.1 = true
  e : ∀ x ∈ z.exs, ∃ C, PySem.W.nsIn K mainGlobals x = some (some (.ref C)) ∧ exB K C = true
  ki : ∀ p ∈ z.kis, ∃ u C, PySem.W.nsIn K mainGlobals p.1 = some (some u) ∧ PySem.W.nsIn K mainGlobals p.2.1 = some (some (.ref C)) ∧ PySem.W.kitOne K u (.ref C) = some p.2.2
  sy : z.sys = true → ∃ o, K.lookup sysModules = some o ∧ o.cls = .type "dict"
  lm : lamsB z K = true
  kb : ∀ p ∈ z.kib, ∃ u, PySem.W.nsIn K mainGlobals p.1 = some (some u) ∧ PySem.W.kitOne K u (.type p.2.1) = some p.2.2
theorem frG_has {g : Addr → Option Obj} {a : Addr} {o : Obj} (h : g a = some o) : ∀ {as : List Addr}, a ∈ as → (He.frG g as).lookup a = some o
  | [], q => nomatch q
  | b :: r, q => by
    unfold He.frG
    rw [List.filterMap_cons]
    by_cases e : a = b
    · subst e
      rw [h]
      show List.lookup a ((a, o) :: _) = some o
      rw [List.lookup_cons]
      simp
    · have q2 : a ∈ r := (List.mem_cons.mp q).resolve_left e
      have ih := frG_has h q2
      cases gb : g b with
      | none => exact ih
      | some ob =>
        show List.lookup a ((b, ob) :: _) = some o
        rw [List.lookup_cons]
        have nb : (a == b) = false := by simpa using e
        rw [nb]
        exact ih
theorem map_same {α β : Type} {f g : α → β} : ∀ {l : List α}, l.map f = l.map g → ∀ x ∈ l, f x = g x
  | [], _, _, h => nomatch h
  | y :: r, e, x, h => by
    rw [List.map_cons, List.map_cons, List.cons.injEq] at e
    rcases List.mem_cons.mp h with rfl | h
    · exact e.1
    · exact map_same e.2 x h
theorem Hd.of_obs {z : Hd} {g : Addr → Option Obj} (e : z.obsG g = z.val) : ∃ as : List Addr, z.Says (He.frG g as) ∧ tabsE z g (He.frG g as) = true := by
  unfold Hd.obsG at e
  split at e
  · rename_i oc od es en osl hm
    refine ⟨sysModules :: clsAs g es.toList (z.cls ++ z.exs) ++ asOf g es.toList, ?_⟩
    unfold Hd.obsE Hd.val at e
    generalize hK : He.frG g (sysModules :: clsAs g es.toList (z.cls ++ z.exs) ++ asOf g es.toList) = K at e ⊢
    unfold Hd.obsK at e
    have has : ∀ {a : Addr} {o : Obj}, a ∈ asOf g es.toList → g a = some o → K.lookup a = some o := fun h q => by rw [← hK]; exact frG_has q (List.mem_append_right _ h)
    have lm : K.lookup mainGlobals = some ⟨oc, od, .dict es en, osl⟩ := has (List.mem_cons_self) hm
    obtain ⟨e1, e2⟩ := Prod.mk.inj e
    obtain ⟨e2, e4⟩ := List.append_inj e2 (by simp)
    simp only [Bool.and_eq_true, Bool.not_eq_true'] at e1
    obtain ⟨r1, r2, r3, r4, rg, r5, r6, r7, r8, r9, r10, r11, r12⟩ := e1
    have ns : ∀ x : Str, PySem.W.nsIn K mainGlobals x = some (lkE es.toList x) := fun x => by
      unfold PySem.W.nsIn lkE
      rw [lm]
      simp only
      cases q : es.toList.find? (·.key.isStr x) with
      | some v => rfl
      | none =>
        simp only
        rw [r1]
        rfl
    have inE : ∀ {x : Str} {u : Value}, lkE es.toList x = some u → ∃ en ∈ es.toList, en.val = u := fun {x u} h => by
      unfold lkE at h
      obtain ⟨en, h1, h2⟩ := Option.map_eq_some_iff.mp h
      exact ⟨en, List.mem_of_find?_eq_some h1, h2⟩
    refine ⟨⟨fun d hd => ?_, fun x hx => ?_, fun x hx => ?_, fun c hc => ?_, fun c hc => ?_, fun x hx => ?_, fun p hp => ?_, fun i hi => ?_, fun x hx => ?_, fun p hp => ?_, fun hs => ?_, r11, fun p hp => ?_⟩, r12⟩
    · have e3 := map_same e2 d hd
      unfold defV at e3
      split at e3
      · rename_i f hf
        obtain ⟨en, me, ev⟩ := inE hf
        split at e3
        · rename_i oc2 od2 fd osl2 gf
          obtain ⟨n1, n2, n3, n4, n5, n6, n7, n8, n9, n10, n11, n12, n13, n14, n15⟩ := fd
          obtain ⟨c1, c2⟩ := Prod.mk.inj e3
          have c3 : (some (n1, n2, n3, n4, n5, n6, n7, n8, n15) : He.FnV) = some (d.1, d.1, defArgs d.2, .stmts (defBody d.2), defScope d.2, mainGlobals, [], .none, builtinsNs) := c2
          simp only [Option.some.injEq, Prod.mk.injEq] at c3
          obtain ⟨h1, h2, h3, h4, h5, h6, h7, h8, h9⟩ := c3
          subst h1 h2 h3 h4 h5 h6 h7 h8 h9
          have mf : f ∈ asOf g es.toList := List.mem_cons_of_mem _ (List.mem_flatMap.mpr ⟨en, me, by rw [ev]; simp [adV]⟩)
          refine ⟨f, oc2, od2, osl2, n9, n10, n11, n12, n13, n14, by rw [ns, hf], has mf gf, ?_⟩
          have c4 : codB g n13 d.1 = true := c1
          unfold codB at c4
          unfold PySem.W.codeIn
          cases n13 with
          | ref c =>
            simp only at c4 ⊢
            have mc : c ∈ asOf g es.toList := List.mem_cons_of_mem _ (List.mem_flatMap.mpr ⟨en, me, by rw [ev]; simp [adV, gf]⟩)
            cases gc : g c with
            | none => rw [gc] at c4; cases c4
            | some o =>
              rw [gc] at c4
              rw [has mc gc]
              exact c4
          | _ => cases c4
        · exact absurd (Prod.mk.inj e3).1 (by decide)
      · exact absurd (Prod.mk.inj e3).1 (by decide)
    · have q := List.all_eq_true.mp r2 x hx
      rw [ns, Option.isNone_iff_eq_none.mp q]
    · have q := List.all_eq_true.mp r3 x hx
      unfold bltB at q
      split at q
      · rename_i m hm2
        rw [ns, hm2, of_decide_eq_true q]
      · cases q
    · have q := List.all_eq_true.mp r4 c hc
      unfold conB at q
      split at q
      · rename_i u hu
        obtain ⟨en, me, ev⟩ := inE hu
        refine ⟨u, by rw [ns, hu], repB_ok (g := g) (fun a ha o ho => has (List.mem_cons_of_mem _ (List.mem_flatMap.mpr ⟨en, me, by rw [ev]; exact List.mem_append.mpr (.inr (List.mem_append.mpr (.inl ha)))⟩)) ho) q⟩
      · cases q
    · have q := List.all_eq_true.mp rg c hc
      unfold gtB at q
      split at q
      · rename_i a hu
        obtain ⟨en, me, ev⟩ := inE hu
        rw [Bool.and_eq_true] at q
        obtain ⟨q1, q2⟩ := q
        split at q2
        · rename_i t es2 m sl ga
          simp only [Bool.and_eq_true, decide_eq_true_eq, List.isEmpty_iff] at q2
          obtain ⟨a1, a2, a3, a4⟩ := q2
          subst a1
          obtain ⟨sl⟩ := sl
          simp only at a2
          subst a2
          have ma : a ∈ asOf g es.toList := List.mem_cons_of_mem _ (List.mem_flatMap.mpr ⟨en, me, by rw [ev]; simp [adV]⟩)
          obtain ⟨L, h1, h2, h3⟩ := entB_l (K := K) (fun e he b hb o ho => has (List.mem_cons_of_mem _ (List.mem_flatMap.mpr ⟨en, me, by
            rw [ev]
            refine List.mem_append.mpr (.inr (List.mem_append.mpr (.inr (List.mem_flatMap.mpr ⟨a, List.mem_cons_self, ?_⟩))))
            unfold keyAs
            rw [ga]
            exact List.mem_flatMap.mpr ⟨e, he, hb⟩⟩)) ho) (Nat.eq_of_beq_eq_true a3) a4
          exact ⟨a, es2, m, L, by rw [ns, hu], by simpa using q1, has ma ga, h1, h2, h3⟩
        · cases q2
      · cases q
    · have q := List.all_eq_true.mp r5 x hx
      unfold xcE at q
      split at q
      · rename_i C hC
        exact ⟨C, by rw [ns, hC], q⟩
      · cases q
    · have q := List.all_eq_true.mp r6 p hp
      unfold prE at q
      split at q
      · rename_i u C h1 h2
        exact ⟨u, C, by rw [ns, h1], by rw [ns, h2], beq_iff_eq.mp q⟩
      · cases q
    · have e3 := map_same e4 i hi
      unfold iniV at e3
      split at e3
      · rename_i C hC
        split at e3
        · rename_i f hf
          split at e3
          · rename_i oc2 od2 fd osl2 gf
            obtain ⟨n1, n2, n3, n4, n5, n6, n7, n8, n9, n10, n11, n12, n13, n14, n15⟩ := fd
            obtain ⟨c1, c2⟩ := Prod.mk.inj e3
            have c3 : (some (n1, n2, n3, n4, n5, n6, n7, n8, n15) : He.FnV) = some (("__init__" : Str), i.2.2.1, defArgs i.2.2.2, .stmts (defBody i.2.2.2), defScope i.2.2.2, mainGlobals, [], .none, builtinsNs) := c2
            simp only [Option.some.injEq, Prod.mk.injEq] at c3
            obtain ⟨h1, h2, h3, h4, h5, h6, h7, h8, h9⟩ := c3
            subst h1 h2 h3 h4 h5 h6 h7 h8 h9
            rw [Bool.and_eq_true] at c1
            exact ⟨C, f, oc2, od2, osl2, n9, n10, n11, n12, n13, n14, by rw [ns, hC], c1.1, gf, c1.2⟩
          · exact absurd (Prod.mk.inj e3).1 (by decide)
        · exact absurd (Prod.mk.inj e3).1 (by decide)
      · exact absurd (Prod.mk.inj e3).1 (by decide)
    · have q := List.all_eq_true.mp r7 x hx
      unfold exE at q
      split at q
      · rename_i C hC
        exact ⟨C, by rw [ns, hC], q⟩
      · cases q
    · have q := List.all_eq_true.mp r8 p hp
      unfold kisE at q
      split at q
      · rename_i u C h1 h2
        exact ⟨u, C, by rw [ns, h1], by rw [ns, h2], beq_iff_eq.mp q⟩
      · cases q
    · rw [hs, Bool.not_true, Bool.false_or] at r10
      unfold sysB at r10
      split at r10
      · rename_i c _ _ _ hk
        exact ⟨_, hk, by rw [of_decide_eq_true r10]⟩
      · cases r10
    · have q := List.all_eq_true.mp r9 p hp
      unfold kibE at q
      split at q
      · rename_i u h1
        exact ⟨u, by rw [ns, h1], beq_iff_eq.mp q⟩
      · cases q
  · exact absurd (Prod.mk.inj e).1 (by decide)
theorem tabE_eq {o : Option Obj} (h : tabE o = true) : o = some { cls := .none, data := .fields #[] } := by
  unfold tabE at h
  split at h
  · rename_i vs sl
    simp only [Bool.and_eq_true, List.isEmpty_iff] at h
    obtain ⟨l1⟩ := vs
    obtain ⟨l2⟩ := sl
    obtain ⟨rfl, rfl⟩ := h
    rfl
  · cases h
theorem tabsE_at {z : Hd} {g : Addr → Option Obj} {K : PySem.W.Frag} (h : tabsE z g K = true) : z.lam = [] ∨ ∀ p ∈ tabsOf K, g p.1 = some { cls := .none, data := .fields #[] } := by
  unfold tabsE at h
  rw [Bool.or_eq_true] at h
  rcases h with h | h
  · exact .inl (List.isEmpty_iff.mp h)
  · exact .inr fun p hp => tabE_eq (List.all_eq_true.mp h p hp)
def Hd.hook (z : Hd) : PySem.W.Hook where
  α := HdA
  obs := fun s => z.obsG s.heap.get?
  val := fun _ => z.val
  says := fun _ h => ∃ K : PySem.W.Frag, K.In h ∧ z.Says K ∧ (z.lam = [] ∨ ∀ p ∈ tabsOf K, h.get? p.1 = some { cls := .none, data := .fields #[] })
  of := fun _ _ e => let ⟨_, c, t⟩ := Hd.of_obs e; ⟨_, He.frG_in, c, tabsE_at t⟩
  keeps := fun _ _ _ ⟨K, hK, c, t⟩ k => ⟨K, PySem.W.Frag.In.keeps hK k, c, t.imp id fun q p hp => k _ _ (q p hp)⟩
theorem Hd.obs_eq {z : Hd} {g : Addr → Option Obj} {s : Shared} (h : ∀ a, g a = s.heap.get? a) : z.obsG g = z.hook.obs s := by
  have e : g = s.heap.get? := funext h
  rw [e] <;> rfl
section
variable {z : Hd} {K : PySem.W.Frag} {h : Heap} {mg : Str → Option Value}
theorem Hd.Says.df (X : K.In h) (G : h.Ns mainGlobals mg) (c : z.Says K) (i : Nat) {x : Str} {st : Stmt} (e : z.defs[i]? = some (x, st) := by rfl) : Df K mg x st := by
  obtain ⟨f, oc, od, osl, kV, doc, pm, an, cdv, ct, h1, l, cd⟩ := c.d _ (List.mem_of_getElem? e)
  exact ⟨_, _, fun_mk (st := st) l cd (by unfold PySem.W.keepIn; simp only at l ⊢; rw [l]), PySem.W.mg_of X G h1⟩
theorem Hd.Says.fr (X : K.In h) (G : h.Ns mainGlobals mg) (c : z.Says K) (i : Nat) {x : Str} (e : z.free[i]? = some x := by rfl) : mg x = none :=
  PySem.W.mg_none_of X G (c.f _ (List.mem_of_getElem? e))
theorem Hd.Says.bf (X : K.In h) (G : h.Ns mainGlobals mg) (c : z.Says K) (i : Nat) {x : Str} {m : String} (e : z.blt[i]? = some (x, m) := by rfl) : mg x = some (.builtin m) :=
  PySem.W.mg_of X G (c.b _ (List.mem_of_getElem? e))
theorem Hd.Says.gc (X : K.In h) (G : h.Ns mainGlobals mg) (c : z.Says K) (i : Nat) {x : Str} {d : D} (e : z.cons[i]? = some (x, d) := by rfl) : GC K mg x d := by
  obtain ⟨u, h1, h2⟩ := c.c _ (List.mem_of_getElem? e)
  exact gc_of X G h1 h2
end
/-- what is known of a def x that makes lambdas, its code object being cdv -/
def LamAt (K : PySem.W.Frag) (mg : Str → Option Value) (x : Str) (cdv : Value) : Prop := ∃ c P, cdv = .ref c ∧ (P, x ++ ".<locals>." ++ "<lambda>") ∈ tabsOf K ∧ (∀ p ∈ tabsOf K, p.1 = P → p.2 = x ++ ".<locals>." ++ "<lambda>") ∧ ∀ base : Heap, K.In base → LamX.TabB base mg c P
theorem ndB_uniq {α : Type} : ∀ {l : List (Addr × α)}, ndB (l.map (·.1)) = true → ∀ {a : Addr} {u v : α}, (a, u) ∈ l → (a, v) ∈ l → u = v
  | [], _, _, _, _, h, _ => nomatch h
  | p :: r, e, a, u, v, h1, h2 => by
    rw [List.map_cons] at e
    unfold ndB at e
    rw [Bool.and_eq_true] at e
    have no : ∀ w, (p.1, w) ∉ r := fun w hw => by
      have q := List.all_eq_true.mp e.1 p.1 (List.mem_map.mpr ⟨_, hw, rfl⟩)
      simp at q
    rcases List.mem_cons.mp h1 with q1 | q1
    · rcases List.mem_cons.mp h2 with q2 | q2
      · rw [← q1] at q2; cases q2; rfl
      · rw [← q1] at no; exact absurd q2 (no v)
    · rcases List.mem_cons.mp h2 with q2 | q2
      · rw [← q2] at no; exact absurd q1 (no u)
      · exact ndB_uniq e.2 q1 q2
theorem reB_eq {P : Addr} {v : Value} (h : reB P v = true) : v = .ref P := by
  unfold reB at h
  split at h
  · rw [Nat.eq_of_beq_eq_true h]
  · cases h
theorem codeB_hd {K : PySem.W.Frag} {c P : Addr} (h : codeB K c P = true) {base : Heap} (hK : K.In base) : PySem.W.CodeHd base c P := by
  unfold codeB at h
  split at h
  · rename_i k od vs sl e
    simp only [Bool.and_eq_true, Bool.not_eq_true', decide_eq_true_eq] at h
    obtain ⟨e0, e1, e2, e3, e4, e5, e6, e7⟩ := h
    subst e0
    have q18 : ∃ z t, vs.getD 18 .none = .str z t := by
      unfold stB at e3
      split at e3
      · rename_i z t q; exact ⟨z, t, q⟩
      · cases e3
    have q7 : ∃ z t, vs.getD 7 .none = .int z t := by
      unfold itB at e4
      split at e4
      · rename_i z t q; exact ⟨z, t, q⟩
      · cases e4
    have q9 : ∃ z, vs.getD 9 .none = .bool z := by
      unfold boB at e5
      split at e5
      · rename_i z q; exact ⟨z, q⟩
      · cases e5
    have q10 : ∃ z t, vs.getD 10 .none = .int z t := by
      unfold itB at e6
      split at e6
      · rename_i z t q; exact ⟨z, t, q⟩
      · cases e6
    obtain ⟨z18, t18, q18⟩ := q18
    obtain ⟨z7, t7, q7⟩ := q7
    obtain ⟨z9, q9⟩ := q9
    obtain ⟨z10, t10, q10⟩ := q10
    refine ⟨_, vs, z18, t18, z7, t7, z9, z10, t10, hK _ _ e, rfl, rfl, ?_, reB_eq e2, q18, q7, q9, q10, fun z => ?_⟩
    · split at e1
      · rename_i v q; rw [q, reB_eq e1]
      · cases e1
    · rw [z] at e7; simp at e7
  · cases h
theorem bmB_at {K : PySem.W.Frag} {P : Addr} (h : bmB K P = true) {h0 : Heap} {mg : Str → Option Value} (X : K.In h0) (G : h0.Ns mainGlobals mg) {base : Heap} (hK : K.In base) : base.BuiltinsAt mg P := by
  unfold bmB at h
  split at h
  · rename_i bm e
    simp only [Bool.and_eq_true, Bool.not_eq_true'] at h
    obtain ⟨e1, e2, e3, e4⟩ := h
    have ne : ∀ {a b : Addr}, Nat.beq a b = false → a ≠ b := fun q z => by rw [z] at q; simp at q
    split at e4
    · rename_i m d sl q
      simp only [Bool.and_eq_true, decide_eq_true_eq] at e4
      obtain ⟨f1, f2⟩ := e4
      subst f1
      have f2 := Nat.eq_of_beq_eq_true f2
      subst f2
      exact ⟨bm, _, PySem.W.mg_of X G e, ne e1, ne e2, ne e3, hK _ _ q, rfl, rfl, rfl⟩
    · cases e4
  · cases h
theorem tabOf_q {K : PySem.W.Frag} {x q : Str} {P : Addr} (h : tabOf K x = some (P, q)) : q = x ++ ".<locals>." ++ "<lambda>" := by
  unfold tabOf at h
  repeat' (split at h)
  all_goals (cases h)
  rfl
theorem Hd.Says.lam {z : Hd} {K : PySem.W.Frag} {h : Heap} {mg : Str → Option Value} (X : K.In h) (G : h.Ns mainGlobals mg) (c : z.Says K) {x : Str} (hx : x ∈ z.lam) (hl : x ∈ lamNames) {f : Addr} {cdv : Value} (hq : CdAt K mg x f cdv) : LamAt K mg x cdv := by
  have l := c.lm
  unfold lamsB at l
  rw [Bool.or_eq_true] at l
  rcases l with l | l
  · rw [List.isEmpty_iff] at l
    rw [l] at hx
    cases hx
  rw [Bool.and_eq_true] at l
  have l1 := List.all_eq_true.mp l.1 x hx
  obtain ⟨hm, oc, od, fd, osl, lk, ecd, hkd⟩ := hq
  clear hkd
  unfold lamB at l1
  split at l1
  · rename_i f' e
    have e' := PySem.W.mg_of X G e
    cases hm.symm.trans e'
    rw [lk] at l1
    simp only at l1
    rw [ecd] at l1
    split at l1
    · rename_i cc
      split at l1
      · rename_i P q et
        obtain rfl := tabOf_q et
        simp only [Bool.and_eq_true, Bool.not_eq_true'] at l1
        obtain ⟨a1, a2, a3, a4⟩ := l1
        have mem : (P, x ++ ".<locals>." ++ "<lambda>") ∈ tabsOf K := List.mem_filterMap.mpr ⟨x, hl, et⟩
        refine ⟨cc, P, rfl, mem, fun p hp ep => ?_, fun base hK => ⟨codeB_hd a1 hK, bmB_at a2 X G hK, fun z => by rw [z] at a4; simp at a4⟩⟩
        obtain ⟨p1, p2⟩ := p
        cases ep
        exact ndB_uniq l.2 hp mem
      · cases l1
    · cases l1
  · cases l1
theorem lam_none {z : Hd} {K : PySem.W.Frag} (c : z.Says K) (hz : lamNames = z.lam) {p : Addr × Str} (hp : p ∈ tabsOf K) : K.lookup p.1 = none ∧ ∃ c, codeB K c p.1 = true := by
  obtain ⟨x, hx, e⟩ := List.mem_filterMap.mp hp
  have l := c.lm
  unfold lamsB at l
  rw [Bool.or_eq_true] at l
  rcases l with l | l
  · rw [List.isEmpty_iff] at l
    rw [hz, l] at hx
    cases hx
  rw [Bool.and_eq_true] at l
  have l1 := List.all_eq_true.mp l.1 x (hz ▸ hx)
  unfold lamB at l1
  repeat' (split at l1)
  all_goals (try cases l1)
  rename_i P q et
  cases e.symm.trans et
  simp only [Bool.and_eq_true] at l1
  exact ⟨Option.isNone_iff_eq_none.mp l1.2.2.1, _, l1.1⟩
theorem g_walkE {l : PySem.W.OpenLaw} {n k : Nat} {q : Program} {loose : List Str} {XP : (Str → Option Value) → Heap → Prop} {YP : World → Heap → Prop} {d : DefRec} {x y : Str} {sem : Sem} (z : Hd) (hz : lamNames = z.lam) (hn : l.most = some n) (hn2 : n ≤ sizeLine) (hdf : d.params.defaults = [])
    (hr : Room k callerA) (hx : d.name = x)
    (F : ∀ (w : World) (mg : Str → Option Value) (h : Heap), YP w h → h.Ns mainGlobals mg → ∃ K : PySem.W.Frag, K.In h ∧ z.Says K ∧ (z.lam = [] ∨ ∀ p ∈ tabsOf K, h.get? p.1 = some { cls := .none, data := .fields #[] }) ∧ ∀ base : Heap, K.In base → base.Ns mainGlobals mg → Ok l.prog w K mg base k x [y] sem)
    (hs : ∀ ns : List Int, ns.length ≤ n → sem [.val (scrD ns)] [] fun r _ => r = .bl true) : PySem.W.WalkO q loose XP YP l.row.toRowW d [] (fun f vs => PySem.call f vs) := by
  refine Att.attach_call hn hdf fun w s0 s1 mg mb fa o pm cd doc a vs ns G Y ho hd hcd hmg hobj hints hlen hg => ?_
  obtain ⟨K, KX, c, hte, hF⟩ := F w mg _ Y G.T.g
  subst hx
  obtain ⟨f, fd, h1, h2, h3, h4, h5, oc, od, osl, lk⟩ := hF _ KX G.T.g
  cases hmg.symm.trans h1
  have nT : ∀ p ∈ tabsOf K, K.lookup p.1 = none := fun p hp => (lam_none c hz hp).1
  refine g_lawT (x := y) (fd := fd) (sp := spD K 1 sem) (CX := CX0) (ts := (tabsOf K).map (·.1)) KX G.T.g G.T.b G.T.builtins G.T.nolimit hg (fun b hb => ?_) (fun b hb => ?_) hobj hints (Nat.le_trans hlen hn2) hr (fun base h h' => ?_) (fun u => ?_) (fun H hO hH hS => ?_) fun H e s' z => z
  · obtain ⟨p, hp, rfl⟩ := List.mem_map.mp hb
    obtain ⟨_, c2, hc⟩ := lam_none c hz hp
    rcases hte with hte | hte
    · obtain ⟨e, he, _⟩ := List.mem_filterMap.mp hp
      rw [hz, hte] at he
      cases he
    · exact ⟨c2, (codeB_hd hc KX).tab (hte p hp)⟩
  · obtain ⟨p, hp, rfl⟩ := List.mem_map.mp hb
    exact nT p hp
  · obtain ⟨f2, fd2, k1, k2, k3, k4, k5, oc2, od2, osl2, lk2⟩ := hF base h h'
    cases hmg.symm.trans k1
    rw [lk] at lk2
    cases lk2
    exact k5
  · exact h3 s1 [u] KX rfl
  · let F0 : Hp := fun b => if b ∈ (tabsOf K).map (·.1) then none else H b
    have f1 : ∀ {b : Addr}, b ∈ (tabsOf K).map (·.1) → F0 b = none := fun {b} q => if_pos q
    have f2 : ∀ {b : Addr}, b ∉ (tabsOf K).map (·.1) → F0 b = H b := fun {b} q => if_neg q
    have sub : Same F0 H := fun b u e => by
      by_cases q : b ∈ (tabsOf K).map (·.1)
      · cases (f1 q).symm.trans e
      · exact (f2 q).symm.trans e
    have nl : ∀ {b : Addr} {o : HO}, H b = some o → noTb o → F0 b = some o := fun {b o} e n => by
      rw [f2 (fun q => n _ (Option.some.inj (e.symm.trans (hH b q))))]
      exact e
    have hS' : SqL K F0 a (ns.map V.int) := by
      rcases hS with (e | ⟨ob, e⟩) | e
      · left; left; exact nl e (fun _ z => nomatch z)
      · left; right; exact ⟨ob, nl e (fun _ z => nomatch z)⟩
      · right; exact e
    refine ⟨rfl, F0, none, [], [.val (scrD ns)], _, .val (.scr hS' (scr_rep ns)) .nil, ⟨sub, fun _ z => (nomatch z), ⟨fun p hp => f1 (List.mem_map.mpr ⟨p, hp, rfl⟩), fun p hp => LamX.TabS.nil (hH p.1 (List.mem_map.mpr ⟨p, hp, rfl⟩)), fun b o e => ?_, fun b ps e => ?_⟩⟩, hs ns hlen, fun v H' F' d T' _ _ r q => by subst q; cases r; rfl⟩
    · rcases hO b with z | z | ⟨ob, xs, z⟩
      · cases z.symm.trans (sub b o e)
      · cases (f1 z).symm.trans e
      · cases z.symm.trans (sub b o e)
        exact fun _ z => nomatch z
    · rcases hO b with z | z | ⟨ob, xs, z⟩
      · cases z.symm.trans e
      · obtain ⟨p, hp, rfl⟩ := List.mem_map.mp z
        exact ⟨p.2, hp⟩
      · cases z.symm.trans e
end L2.G

namespace L2.G
open PySem PySem.Spec PyProof.Rows
/-! sorted(set(xs)), xs a list of tuples of ints of either sign -/
def TupH (h : Heap) (p : Addr × List Int) : Prop := ∃ o xs n, h.get? p.1 = some o ∧ o.cls = .type "tuple" ∧ o.data = .seq xs n ∧ Vals (p.2.map V.int) xs.toList
theorem TupH.keep {h h' : Heap} {p : Addr × List Int} (k : ∀ b o, h.get? b = some o → h'.get? b = some o) : TupH h p → TupH h' p :=
  fun ⟨o, xs, n, g, r⟩ => ⟨o, xs, n, k _ _ g, r⟩
theorem TupH.first {h : Heap} : ∀ (L : List (Addr × List Int)), (∀ p ∈ L, TupH h p ∧ p.2 ≠ []) → ∃ fs, PyProof.Rows.TupsOf h noS (L.map fun p => Value.ref p.1) fs
  | [], _ => ⟨[], .nil⟩
  | p :: L, q => by
    obtain ⟨fs, ih⟩ := TupH.first L fun r hr => q r (List.mem_cons_of_mem _ hr)
    obtain ⟨⟨o, xs, n, g, c, d, v⟩, h2⟩ := q p List.mem_cons_self
    obtain ⟨m, r, er⟩ := List.exists_cons_of_ne_nil h2
    rw [er] at v
    obtain ⟨u, us, ex⟩ : ∃ u us, xs.toList = u :: us := by
      cases z : xs.toList with
      | nil => rw [z] at v; cases v
      | cons u us => exact ⟨u, us, rfl⟩
    rw [ex] at v
    have hu : ∃ t, u = .int m t := by
      cases v with
      | cons r _ => exact r
    obtain ⟨t, rfl⟩ := hu
    have g0 : xs[0]? = some (.int m t) := by rw [← Array.getElem?_toList, ex]; rfl
    exact ⟨_, .cons ⟨p.1, o, xs, n, rfl, g, c, d, g0, fun _ => ⟨m, t, rfl⟩, fun z => nomatch z⟩ ih⟩
section
variable {X : Cx} {e : Expr} {fr : dA} {p p2 pos pos2 : Pos} {es : List Expr}
end
/-! less than, for ints and for tuples of ints -/
section
variable {X : Cx} {a b : Expr} {fa fb : dE} {pos : Pos}
end
theorem lt_units {A : Around} (h : A.units + 66 < cLine) : A.units < cLine := by omega
end L2.G

namespace L2.G
open PySem PySem.Spec PyProof.Rows
/-! {"a": 1, ..}[x]: a displayed dict of texts to ints, and what stands at x -/
end L2.G

namespace L2.G
open PySem PySem.Spec PyProof.Rows
/-! defs that may raise: a def's reading takes r, what is wished of an exception -/
/-- an exception: the name of its class, what it was given -/
structure ExD where
  nm : Str
  arg : Option (Str × D)
abbrev RK := ExD → Tk → Prop
/-- in a body: with the slots -/
abbrev RX := ExD → En → Tk → Prop
def RepE (K : PySem.W.Frag) (mg : Str → Option Value) (F H : Hp) (e : ExD) (cls : Value) (d : Option Addr) : Prop :=
  mg e.nm = some cls ∧ match e.arg with
    | none => d = none
    | some (fl, x) => ∃ dd v, d = some dd ∧ H dd = some (.xd [(fl, v)]) ∧ Rep K F x v
def FinX (K : PySem.W.Frag) (mg : Str → Option Value) (t : Option Addr) (F H : Hp) (r : RK) (E : XK) : Prop := ∀ e T' F' H' cls d, Wt K T' t F' H' → Grow t F H F' H' → RepE K mg F' H' e cls d → r e T' → E cls d H'
abbrev SemX := RK → Sem
def spX (K : PySem.W.Frag) (mg : Str → Option Value) (n : Nat) (sem : SemX) : Sp := fun vs H Q E => vs.length = n ∧ ∃ F t T as k r, ArgL K t F as vs ∧ Wt K T t F H ∧ sem r as T k ∧ Fin K t F H k Q ∧ FinX K mg t F H r E
def OkX (P : Program) (w : World) (K : PySem.W.Frag) (mg : Str → Option Value) (base : Heap) (n : Nat) (x : Str) (ps : List Str) (sem : SemX) : Prop :=
  ∃ f fd, mg x = some (.ref f) ∧ PySem.W.keepIn K (.ref f) = true ∧ Binds K fd ps [] ∧ (∀ (s : Shared) (ws : List Value), K.In s.heap → ws.length = ps.length → BindsTo s fd ⟨[], ps.zip ws⟩ (ps.zip ws)) ∧ GFn P w K mg base (L2.CX P w) n f fd ps (spX K mg ps.length sem) ∧ ∃ oc od osl, K.lookup f = some ⟨oc, od, .func fd, osl⟩
theorem OkX.mono {P : Program} {w : World} {K : PySem.W.Frag} {mg : Str → Option Value} {base : Heap} {m n : Nat} {x : Str} {ps : List Str} {sem : SemX} (h : OkX P w K mg base m x ps sem) (l : m ≤ n) : OkX P w K mg base n x ps sem :=
  let ⟨f, fd, h1, h2, h3, h4, h5, h6⟩ := h; ⟨f, fd, h1, h2, h3, h4, h5.mono l, h6⟩
theorem OkX.imp {P : Program} {w : World} {K : PySem.W.Frag} {mg : Str → Option Value} {base : Heap} {n : Nat} {x : Str} {ps : List Str} {sem sem' : SemX} (h : OkX P w K mg base n x ps sem) (i : ∀ r as T k, sem' r as T k → sem r as T k) : OkX P w K mg base n x ps sem' :=
  let ⟨f, fd, h1, h2, h3, h4, h5, h6⟩ := h; ⟨f, fd, h1, h2, h3, h4, h5.imp (fun vs H Q E ⟨q1, F, t, T, as, k, r, a, b, c, d, e⟩ => ⟨q1, F, t, T, as, k, r, a, b, i _ _ _ _ c, d, e⟩), h6⟩

/-! in a body -/
structure Ct where
  t : Option Addr
  F0 : Hp
  H0 : Hp
  F1 : Hp
def tDX (K : PySem.W.Frag) (c : Ct) (f : dE) : TE := fun σ H Q => ∃ ρ T F k, Ws K ρ T c.t σ c.F0 c.H0 F H ∧ Same c.F1 F ∧ f ρ T k ∧ Fin K c.t F H k Q
abbrev PEx (X : Cx) (c : Ct) (e : Expr) (f : dE) : Prop := PE X e (tDX X.K c f)
def tDXS (K : PySem.W.Frag) (c : Ct) (f : dS) : TS := fun E σ H => ∃ ρ T F k, Ws K ρ T c.t σ c.F0 c.H0 F H ∧ Same c.F1 F ∧ f k ρ T ∧ FinE K c.t c.F0 c.H0 F k E
abbrev PSx (X : Cx) (c : Ct) (st : Stmt) (f : dS) : Prop := PS X st (tDXS X.K c f)
abbrev PSsx (X : Cx) (c : Ct) (st : List Stmt) (f : dS) : Prop := PSs X st (tDXS X.K c f)
/-- what r wishes is what W wishes -/
def Lk (X : Cx) (c : Ct) (r : RX) (W : WX) : Prop := ∀ e ρ T F H cls d σ, Ws X.K ρ T c.t σ c.F0 c.H0 F H → Same c.F1 F → RepE X.K X.mg F H e cls d → r e ρ T → W cls d σ H
section
variable {X : Cx} {c : Ct} {e : Expr} {fe fa fb : dE} {st : Stmt} {rest : List Stmt} {f g : dS} {pos : Pos} {W : WX} {r : RX}
theorem sx_of (h : PSd X st f) : PSx X c st f := ps_imp h fun _ _ _ ⟨ρ, T, F, k, w, _, h, fe⟩ => ⟨ρ, T, c.t, c.F0, c.H0, F, k, w, h, fe⟩
theorem ssx_of (h : PSsd X rest f) : PSsx X c rest f := pss_imp h fun _ _ _ ⟨ρ, T, F, k, w, _, h, fe⟩ => ⟨ρ, T, c.t, c.F0, c.H0, F, k, w, h, fe⟩
theorem ssx_cons (h1 : PSx X c st f) (h2 : PSsx X c rest g) : PSsx X c (st :: rest) (sSeq f g) := by
  refine pss_imp (pss_cons h1 h2) fun E σ H h => ?_
  obtain ⟨ρ, T, F, k, w, s, h, fe⟩ := h
  exact ⟨ρ, T, F, _, w, s, h, ⟨fun ρ' T' σ' F' H' w' s' h' => ⟨ρ', T', F', k, w', s.trans s', h', fe.to s'⟩, fe.rt, fe.bk, fe.ct⟩⟩
theorem ssx_one (h1 : PSx X c st f) : PSsx X c [st] f := pss_one h1
theorem sx_ret (he : PEx X c e fe) : PSx X c (.Return (some e) pos) (sRet fe) := by
  refine ps_imp (ps_ret he) fun E σ H h => ?_
  obtain ⟨ρ, T, F, k, w, s, h, fe⟩ := h
  exact ⟨ρ, T, F, _, w, s, h, fun v H1 F1 d T1 w1 g1 r1 h1 => fe.rt _ _ _ _ _ w1 (w.g.trans g1) r1 h1⟩
theorem sx_expr (he : PEx X c e fe) (hs : swapsWith e none pos.line X.env = pure false := by rfl) : PSx X c (.Expr e pos) (sExpr fe) := by
  refine ps_imp (ps_expr he hs) fun E σ H h => ?_
  obtain ⟨ρ, T, F, k, w, s, h, fe⟩ := h
  exact ⟨ρ, T, F, _, w, s, h, fun v H1 F1 d T1 w1 g1 r1 h1 => fe.nx _ _ _ _ _ (w.grow g1 w1) g1.sub h1⟩
theorem sx_if {cc : Expr} {tc : dT} {a b : List Stmt} (hc : PTd X cc tc) (ha : PSsx X c a f) (hb : PSsx X c b g) : PSx X c (.If cc a b pos) (sIf tc f g) := by
  refine ps_imp (ps_if hc ha hb) fun E σ H h => ?_
  obtain ⟨ρ, T, F, k, w, s, h, fe⟩ := h
  refine ⟨ρ, T, c.t, F, _, w.w, h, fun b H1 F1 T1 w1 g1 h1 => ?_⟩
  cases b with
  | true => exact ⟨ρ, T1, F1, k, w.grow g1 w1, s.trans g1.sub, h1, fe.to g1.sub⟩
  | false => exact ⟨ρ, T1, F1, k, w.grow g1 w1, s.trans g1.sub, h1, fe.to g1.sub⟩
theorem x_if {cc : Expr} {tc : dT} {a b : Expr} (hc : PTd X cc tc) (ha : PEx X c a fa) (hb : PEx X c b fb) : PEx X c (.IfExp cc a b pos) (dIf tc fa fb) := by
  refine pe_imp (pe_ifExp hc ha hb) fun σ H Q h => ?_
  obtain ⟨ρ, T, F, k, w, s, h, f⟩ := h
  refine ⟨ρ, T, c.t, F, _, w.w, h, fun b H1 F1 T1 w1 g1 h1 => ?_⟩
  cases b with
  | true => exact ⟨ρ, T1, F1, k, w.grow g1 w1, s.trans g1.sub, h1, f.then g1⟩
  | false => exact ⟨ρ, T1, F1, k, w.grow g1 w1, s.trans g1.sub, h1, f.then g1⟩
end

/-! calls -/
section
variable {X : Cx} {CX : CXT} {n : Nat} {f : Addr} {fd : FuncData} {ps : List Str} {sp : Sp} {x : Str} {p pos : Pos} {e : Expr} {es : List Expr} {t : TA}
theorem g_runS {σ : L2.St} {E : XK} (G : GFn X.prog X.w X.K X.mg X.base CX n f fd ps sp) (hr : Room n X.A) (hgd : X.A.guards = some []) (hx : PassesAt CX X σ E) {pins : List (Addr × Obj)} {H : Hp} {s : Shared} {Q : VK} {args : Args} {us : List Value} {vs : List V}
    (I : Inv X pins σ H s) (r : Vals vs us) (b : BindsTo s fd args (ps.zip us)) (h : sp vs H Q E) : wpAny (model X.prog X.w) X.A (call (.ref f) args.pos args.kw) (EP X pins σ Q) X.xe s := by
  apply wpAny_call
  apply codeAny_mono (G.go X.A X.stack s H args us vs Q E ⟨hr, hgd⟩ I.env0 b r h)
  intro r s' hq
  match r, hq with
  | .error e, hq => exact hx pins H s e s' I hq
  | .ok (.ret u), hq => exact I.after hq
theorem g_callS {E : L2.St → XK} (G : GFn X.prog X.w X.K X.mg X.base CX n f fd ps sp) (hr : Room n X.A) (hgd : X.A.guards = some []) (hg : Gl X x) (hm : X.mg x = some (.ref f)) (hk : PySem.W.keepIn X.K (.ref f) = true) (hb : Binds X.K fd ps []) (hx : ∀ σ, PassesAt CX X σ (E σ))
    (ha : PA X (e :: es) t) (hd : (x == ("__debug__" : Str)) = false := by decide) (he : starEach (e :: es) X.env = (false, eval e X.env) :: starEach es X.env := by rfl) (hp : (backTo pos (starEach es X.env)).any (·.1) = false := by rfl) :
    PE X (.Call (.Name x p) (e :: es) [] pos) (tCallS sp E t) := by
  constructor
  intro pins s σ H Q I h
  apply wpAny_Call_Name_kw
  apply ld_glob I hg hm _ hd
  apply PySem.W.callWith_K (h₀ := X.base) I.ok.mod.kin hk _ he hp
  apply thn (ha.run pos pins s σ H _ I h)
  rintro us s1 ⟨vs, H1, I1, r, q⟩
  refine ⟨I1.kIn, ?_⟩
  have q : sp vs H1 Q (E σ) := q
  have hl : us.length = ps.length := by rw [← r.length]; exact G.len _ _ _ _ q
  have b := hb s1 us I1.kIn (by rw [List.append_nil]; exact hl)
  rw [List.append_nil] at b
  exact g_runS G hr hgd (hx σ) (args := ⟨us, []⟩) I1 r b q
end
section
variable {X : Cx} {n : Nat} {x : Str} {ps : List Str} {sem : SemX} {p pos : Pos} {e : Expr} {es : List Expr} {kws : List Keyword} {fr : dA} {c : Ct} {r : RX} {W : WX}
/-- a call that may raise -/
def dCallX (n : Nat) (sem : SemX) (r : RX) (fr : dA) : dE := fun ρ T k => fr ρ T fun as T1 => as.length = n ∧ sem (fun e T => r e ρ T) as T1 k
theorem x_call (G : OkX X.prog X.w X.K X.mg X.base n x ps sem) (hr : Room n X.A) (hgd : X.A.guards = some []) (tk : Takes X W) (lk : Lk X c r W) (ha : PAd X (e :: es) fr) (hg : Gl X x := by rfl)
    (hd : (x == ("__debug__" : Str)) = false := by decide) (he : starEach (e :: es) X.env = (false, eval e X.env) :: starEach es X.env := by rfl) (hp : (backTo pos (starEach es X.env)).any (·.1) = false := by rfl) : PEx X c (.Call (.Name x p) (e :: es) [] pos) (dCallX ps.length sem r fr) := by
  obtain ⟨f, fd, h1, h2, h3, _, h5, _⟩ := G
  refine pe_imp (g_callS (E := WE W) h5 hr hgd hg h1 h2 h3 (fun σ => passAt tk σ) ha hd he hp) fun σ H Q h => ?_
  obtain ⟨ρ, T, F, k, w, s, h, f⟩ := h
  refine ⟨ρ, T, c.t, F, _, w.w, h, fun vs H1 F1 as T1 w1 g1 r1 h1 => ?_⟩
  exact ⟨by rw [← r1.len]; exact h1.1, F1, c.t, T1, as, k, _, r1, w1, h1.2, f.then g1, fun e T' F' H' cls d w' g' re hr => lk e ρ T' F' H' cls d σ (w.grow (g1.trans g') w') (s.trans (g1.trans g').sub) re hr⟩
end
/-! defs -/
abbrev CxX (P : Program) (w : World) (K : PySem.W.Frag) (mg : Str → Option Value) (base : Heap) (N : List Str) (x : Str) (st : Stmt) (f : Addr) (cdv : Value) (A : Around) (fs : List Env) (s : Shared) (H : Hp) (E : XK) : Cx :=
  cxOf (L2.CX P w) P w K mg base N x (defScope st) f cdv A fs s H E
def semX (N : List Str) (b : RX → dS) : SemX := fun r => semOf N (b fun e _ T => r e T)
theorem ok_defX {P : Program} {w : World} {K : PySem.W.Frag} {mg : Str → Option Value} {base : Heap} {n : Nat} {x : Str} {st : Stmt} {N ps : List Str} {b : RX → dS} (h : Df K mg x st) (S : FnScope N ps (defScope st))
    (hb1 : ∀ (kV doc pm : Value) (an : Option Addr) (cdv ct : Value) (us : List Value), us.length = ps.length → bindArgs (PySem.W.fnOf x x (defArgs st) (defBody st) (defScope st) .none kV doc pm an cdv ct) ⟨us, []⟩ = pure (ps.zip us))
    (hb2 : ∀ (kV doc pm : Value) (an : Option Addr) (cdv ct : Value) (us : List Value), us.length = ps.length → bindArgs (PySem.W.fnOf x x (defArgs st) (defBody st) (defScope st) .none kV doc pm an cdv ct) ⟨[], ps.zip us⟩ = pure (ps.zip us))
    (body : ∀ (f : Addr) (cdv : Value) (A : Around) (fs : List Env) (s : Shared) (H : Hp) (E : XK), CdAt K mg x f cdv → Room n (A.deeper (envOfC x (defScope st) s.heap.objs.size f cdv)) → A.guards = some [] →
      ∀ (c : Ct) (r : RX) (W : WX), Takes (CxX P w K mg base N x st f cdv A fs s H E) W → Lk (CxX P w K mg base N x st f cdv A fs s H E) c r W → PSsx (CxX P w K mg base N x st f cdv A fs s H E) c (defBody st) (b r)) :
    OkX P w K mg base (n + 1) x ps (semX N b) := by
  obtain ⟨f, fd, Fn, hm⟩ := h
  refine ⟨f, fd, hm, Fn.kp, Fn.binds hb1, ?_, ?_, by obtain ⟨oc, od, kV, doc, pm, an, cdv, ct, osl, _, lk, _⟩ := Fn.ex; exact ⟨oc, od, osl, lk⟩⟩
  · obtain ⟨oc, od, kV, doc, pm, an, cdv, ct, osl, rfl, lk, hcd⟩ := Fn.ex
    exact fun s ws _ hl => .of_eq (hb2 kV doc pm an cdv ct ws hl)
  · obtain ⟨oc, od, kV, doc, pm, an, cdv, ct, osl, rfl, lk, hcd⟩ := Fn.ex
    refine gfn_body lk hcd S (fun vs H Q E q => q.1) fun A fs s H vs Q E hr hgd hsp => ?_
    obtain ⟨hl, F, t, T, as, k, r, ar, wt, h, fin, fx⟩ := hsp
    refine ⟨_, body f cdv A fs s H E ⟨hm, _, _, _, _, lk, rfl, kdsCode_of hcd⟩ hr hgd ⟨t, F, H, F⟩ (fun e _ T => r e T) (fun cls d _ H => E cls d H) (takes_of rfl rfl rfl rfl) (fun e ρ T' F' H' cls d σ w' _ re hr => fx e T' F' H' cls d w'.w.wt w'.g re hr), start' N as, T, F, _, ⟨wd_start ar wt, Grow.refl _ _ _, fun i xs l e1 _ => ?_⟩, Same.refl _, h, ?_⟩
    · exact absurd rfl ((argGet (H := H) ar i _ (startGet e1)).2 xs)
    · exact ⟨fun ρ T' σ' F' H' w' _ q => fin .non H' F' .non T' w'.w.wt w'.g .non q, fun v H' F' d T' w' g' r' q => fin v H' F' d T' w' g' r' q, fun _ _ _ _ _ _ _ q => q.elim, fun _ _ _ _ _ _ _ q => q.elim⟩

/-! raise -/
/-- what an own class without own __init__ must say -/
structure Xc0 (K : PySem.W.Frag) (mg : Str → Option Value) (x : Str) (C : Addr) : Prop where
  gC : mg x = some (.ref C)
  ex : PySem.W.excIn K C PySem.HandSPX.veTail "ValueError.__new__" = true
  kC : PySem.W.keepIn K (.ref C) = true
  sb : PySem.W.subIn K (.ref C) (.type "BaseException") = some true
  ty : PySem.W.typeIn K (.ref C) = some (.type "type")
theorem Hd.Says.xc {z : Hd} {K : PySem.W.Frag} {h : Heap} {mg : Str → Option Value} (X : K.In h) (G : h.Ns mainGlobals mg) (c : z.Says K) (i : Nat) {x : Str} (e : z.cls[i]? = some x := by rfl) : ∃ C, Xc0 K mg x C := by
  obtain ⟨C, h1, h2⟩ := c.x _ (List.mem_of_getElem? e)
  unfold xcB at h2
  simp only [Bool.and_eq_true, beq_iff_eq] at h2
  obtain ⟨q1, q2, q3, q4⟩ := h2
  exact ⟨C, PySem.W.mg_of X G h1, q1, q2, q3, q4⟩
theorem Hd.Says.xm {z : Hd} {K : PySem.W.Frag} {h : Heap} {mg : Str → Option Value} (X : K.In h) (G : h.Ns mainGlobals mg) (c : z.Says K) {x : Str} {mt : Str → Option Bool} (hm : ∀ nm, mt nm = some true → (nm, x) ∈ z.prs) :
    ∀ C, mg x = some (.ref C) → ∀ nm cls, mt nm = some true → mg nm = some cls → PySem.W.exmOne K cls (.ref C) = some true := by
  intro C hC nm cls h1 h2
  obtain ⟨u, C', a, b, e⟩ := c.p _ (hm nm h1)
  have z1 := PySem.W.mg_of X G a
  have z2 := PySem.W.mg_of X G b
  simp only at z1 z2
  rw [hC] at z2
  rw [h2] at z1
  cases z1
  cases z2
  exact e
section
variable {X : Cx} {c : Ct} {pos pos2 p : Pos} {W : WX} {r : RX} {x : Str} {C : Addr}
theorem pmk_own0 (q : Xc0 X.K X.mg x C) (hg : Gl X x) (hdb : (x == ("__debug__" : Str)) = false := by decide) : PMk X (.Call (.Name x p) [] [] pos) (fun _ H Q => Q (.ref C) none H) := by
  intro pins s σ H Q I h
  refine wpAny_Call_Name_kw (ld_glob I hg q.gC ?_ hdb)
  refine PySem.W.callWith_K0 I.kIn q.kC ?_
  show wpAny _ _ (call (.ref C) []) _ _ _
  obtain ⟨bm, N, nm, qn, bs, hdct, sn, sub, ab, col, dd, k0, k1, k2, k3, k5, mN, hC, hN, hni, T⟩ := exc_obj I.kIn q.ex
  refine wpAny_call_exc_subT PySem.F.excBase_ValueError T hC hN hni (fun h' e hm => ?_) (by show 0 ≤ sizeLine; omega)
  exact mk_of I hm (raises_own q.sb q.ty) h (I.hok.gone hm.new)
def sRaise0 (x : Str) (r : RX) : dS := fun _ ρ T => r ⟨x, none⟩ ρ T
theorem sx_raise0 (q : Xc0 X.K X.mg x C) (hc : X.calm = true) (tk : Takes X W) (lk : Lk X c r W) (hg : Gl X x := by rfl) (hdb : (x == ("__debug__" : Str)) = false := by decide) : PSx X c (.Raise (some (.Call (.Name x p) [] [] pos)) none pos2) (sRaise0 x r) := by
  refine ps_imp (ps_raise hc tk (pmk_own0 q hg hdb)) fun E σ H h => ?_
  obtain ⟨ρ, T, F, k, w, s, h, fe⟩ := h
  exact lk ⟨x, none⟩ ρ T F H (.ref C) none σ w s ⟨q.gC, rfl⟩ h
end

/-! try .. except X -/
section
variable {X : Cx} {x : Str} {cv : Value} {body suite : List Stmt} {b₀ : Stmt} {np pos pos' : Pos} {b : RX → dS} {s : dS} {mt : Str → Option Bool}
end
/-! a tuple some times -/
def fMulT : D → D → PD
  | .tup xs, .int n => some (xs ≠ [] ∧ 2 ≤ n ∧ n ≤ 1000 ∧ xs.length ≤ 1000, .tup (repD xs n.toNat))
  | _, _ => none
theorem fMulT_ok {K : PySem.W.Frag} : OpS K (rRepT K) (oF fMulT) := by
  intro t F H T x y v w k Q wt r1 r2 q f
  cases x with
  | tup xs =>
    cases y with
    | int n =>
      obtain ⟨a, vs, rfl, h1, r1⟩ := rep_tup r1
      cases r2
      obtain ⟨⟨q1, q2, q3, q4⟩, q5⟩ := q
      have hl := r1.len
      exact ⟨a, _, vs, rfl, rfl, same_t wt.sub h1, fun z => q1 (by rw [z] at hl; exact List.length_eq_zero_iff.mp hl), q2, q3, by rw [← hl]; exact q4, fun p hp => f.tup wt (rep_flat r1 _) hp q5⟩
    | _ => exact q.elim
  | _ => exact q.elim
section
variable {X : Cx} {a b : Expr} {fa fb : dE} {pos : Pos}
end
end L2.G

set_option maxHeartbeats 2000000
namespace PySem
namespace XgX
open PySem.W PySem.Calls PyProof.Rows PySem.HandSPX
/-! ### the text of __init__ -/
def iA (fl : Str) (p1 p2 : Pos) : Arguments := { posonlyargs := [], args := [{ arg := "self", annotation := none, pos := p1 }, { arg := fl, annotation := none, pos := p2 }], vararg := none, kwonlyargs := [], kw_defaults := [], kwarg := none, defaults := [] }
def iB (fl : Str) (q1 q2 q3 q4 : Pos) : List Stmt := [.Assign [.Attribute (.Name "self" q1) fl q2] (.Name fl q3) q4]
def iS (fl : Str) : Scope := { kind := .function, names := [(PySem.Str.ofString "self", .local), (fl, .local)], isGenerator := false, isCoroutine := false, more := [] }
/-- what the written part says of Low, at C, and of its __init__, at fI -/
structure XgTxt (x qi fl : Str) (K : Frag) (mg : Str → Option Value) (C fI : Addr) : Prop where
  gC : mg x = some (.ref C)
  cls : ∃ nm q N bs bm sn sub ab col dd k0 k1 k2 k3 k5, K.lookup C = some (excClassObj nm q C N bs bm true sn sub ab col dd k0 k1 k2 k3 k5 "ValueError.__new__") ∧ refsVE bm = true
  sa : findIn K (.ref C) "__setattr__" = some (some (.builtin "object.__setattr__"))
  ga : findIn K (.ref C) "__getattribute__" = some (some (.builtin "BaseException.__getattribute__"))
  gg : findIn K (.ref C) "__getattr__" = some none
  hfl : fl = "given" ∨ fl = "index"
  noN : findIn K (.ref C) fl = some none
  iC : findIn K (.ref C) "__init__" = some (some (.ref fI))
  tC : typeIn K (.ref fI) = some (.type "function")
  kC : keepIn K (.ref C) = true
  exC : subIn K (.ref C) (.type "BaseException") = some true
  tyC : typeIn K (.ref C) = some (.type "type")
  hdC : hasDictIn K C = true
  te : exmOne K (.ref C) (.ref C) = some true
  fn : ∃ (oc : Value) (od : Option Addr) (kV doc pm : Value) (an : Option Addr) (cdv ct : Value) (osl : Array (Option Value)) (p1 p2 q1 q2 q3 q4 : Pos),
    K.lookup fI = some ⟨oc, od, .func (fnOf "__init__" qi (iA fl p1 p2) (iB fl q1 q2 q3 q4) (iS fl) .none kV doc pm an cdv ct), osl⟩ ∧ codeIn K cdv qi = true
theorem one_size (v : Value) : [v].length ≤ sizeLine := by
  rw [sizeLine_eq]
  exact (by decide : 1 ≤ 16777216)
theorem ldC {M : Model} {s : Shared} {name : Str} {scope : Scope} {L a : Addr} {cd : Value} {m : Str → Option Value} {x : Str} {pos : Pos} {v : Value} {Q : Value → Shared → Prop} {A : Around} {E : Value → Shared → Prop} (hn : s.heap.Ns L m) (hv : m x = some v) (h : Q v s)
    (hk : scope.kind = .function := by rfl) (hl : (envOfC name scope L a cd).kindOf x = some .local := by rfl) (hd : (x == ("__debug__" : Str)) = false := by decide) :
    wpAny M A (eval (.Name x pos) (envOfC name scope L a cd)) Q E s := wpAny_Name (wpAny_loadName_local hk hl hn hv h) hd
/-- what __init__ leaves of a fresh exception at x -/
structure InitEnd (fl : Str) (h h' : Heap) (x C dx t1 : Addr) (v : Value) : Prop where
  keep : ∀ b o, b ≠ x → h.get? b = some o → h'.get? b = some o
  obj : h'.get? x = some { cls := .ref C, dict := some dx, data := .fields #[.ref t1, .none, .none, .none, .bool false, .none] }
  dbig : h.objs.size ≤ dx
  dne : dx ≠ x
  ns : h'.Ns1 dx (fun y => if y = fl then some v else none)
/-- a made Low -/
structure OwnMade (fl : Str) (h h' : Heap) (e C d : Addr) (v : Value) : Prop where
  keep : ∀ b o, h.get? b = some o → h'.get? b = some o
  new : h.objs.size ≤ e
  obj : ∃ oe vs, h'.get? e = some oe ∧ oe.cls = .ref C ∧ oe.dict = some d ∧ oe.data = .fields vs ∧ vs[1]? = some .none
  dbig : h.objs.size ≤ d
  dne : d ≠ e
  ns : h'.Ns1 d (fun y => if y = fl then some v else none)
section
variable {prog : Program} {w : World} {A : Around} {E : Value → Shared → Prop} {R : Result → Shared → Prop} {s : Shared} {K : Frag} {mg : Str → Option Value} {nx qi fl : Str} {C fI : Addr}
theorem low_init (T : XgTxt nx qi fl K mg C fI) {x t0 : Addr} {v : Value} (X : K.In s.heap) (hlim : s.heap.NoLimit) (hx : s.heap.get? x = some (excO C t0)) (hnx : K.lookup x = none) (hroom : A.depth < recursionLimit)
    (hq : ∀ h' tk dx, InitEnd fl s.heap h' x C dx t0 v → R (.ok (.ret .none)) { s with heap := h', toks := tk }) :
    codeAny (model prog w) A (.call (.ref fI) ⟨[.ref x, v], []⟩) R s := by
  obtain ⟨oc, od, kV, doc, pm, an, cdv, ct, osl, p1, p2, q1, q2, q3, q4, ho, hcd⟩ := T.fn
  obtain ⟨nm, q, N, bs, bm, sn, sub, ab, col, dd, k0, k1, k2, k3, k5, hC, hbm⟩ := T.cls
  have hcl : clsIn K C = some { name := nm, bases := bs, mro := .ref C :: bm, ns := N, qualname := q, hasDict := true, slotNames := sn, subclasses := sub, abstract := ab, collection := col, hasDel := false } := by unfold clsIn; rw [hC] <;> rfl
  have hfl := T.hfl
  rcases hfl with rfl | rfl
  · refine Att.call_fn (binds := [("self", .ref x), ("given", v)]) X hlim ho hcd hroom (BindsTo.of_eq (by first | rfl | with_unfolding_all rfl)) (by first | rfl | decide | with_unfolding_all rfl) (fun s₁ IC => ?_) rfl rfl rfl
    obtain ⟨h₁, tk₁, rfl⟩ := IC.toInCall.same
    have k : ∀ b o, s.heap.get? b = some o → h₁.get? b = some o := IC.toInCall.keep
    have hn := IC.toInCall.ns
    have hxL : s.heap.objs.size ≠ x := Nat.ne_of_gt (Heap.lt_size hx)
    have X₁ : K.In h₁ := X.keeps k
    have hx₁ := k _ _ hx
    -- self.by = by
    show wpAny _ _ (execs _ _) _ _ _
    refine wpAny_execs_cons (plainObj_wpAny_Assign_Attribute ?_)
    refine ldC (v := v) hn (by first | rfl | with_unfolding_all rfl | kernel_rfl) (ldC (v := .ref x) hn (by first | rfl | with_unfolding_all rfl | kernel_rfl) ?_)
    refine set_plain X₁ (ox := excO C t0) (od := none) ⟨hx₁, rfl, rfl, trivial⟩ T.sa ?_
    refine exc_osa X₁ hx₁ hcl (show refsVE (.ref C :: bm) = true from hbm) rfl T.noN (fun h₃ tk₃ dx k₃ dn dne hx₃ hn₃ => ?_)
    show wpAny _ _ (execs _ _) _ _ _
    have z : s.heap.objs.size < h₁.objs.size := hn.lt
    exact wpAny_execs_nil (hq h₃ tk₃ dx ⟨fun b o hb e => k₃ b o hb (k b o e), hx₃, Nat.le_of_lt (Nat.lt_of_lt_of_le z dn), dne, hn₃⟩)
  · refine Att.call_fn (binds := [("self", .ref x), ("index", v)]) X hlim ho hcd hroom (BindsTo.of_eq (by first | rfl | with_unfolding_all rfl)) (by first | rfl | decide | with_unfolding_all rfl) (fun s₁ IC => ?_) rfl rfl rfl
    obtain ⟨h₁, tk₁, rfl⟩ := IC.toInCall.same
    have k : ∀ b o, s.heap.get? b = some o → h₁.get? b = some o := IC.toInCall.keep
    have hn := IC.toInCall.ns
    have hxL : s.heap.objs.size ≠ x := Nat.ne_of_gt (Heap.lt_size hx)
    have X₁ : K.In h₁ := X.keeps k
    have hx₁ := k _ _ hx
    -- self.by = by
    show wpAny _ _ (execs _ _) _ _ _
    refine wpAny_execs_cons (plainObj_wpAny_Assign_Attribute ?_)
    refine ldC (v := v) hn (by first | rfl | with_unfolding_all rfl | kernel_rfl) (ldC (v := .ref x) hn (by first | rfl | with_unfolding_all rfl | kernel_rfl) ?_)
    refine set_plain X₁ (ox := excO C t0) (od := none) ⟨hx₁, rfl, rfl, trivial⟩ T.sa ?_
    refine exc_osa X₁ hx₁ hcl (show refsVE (.ref C :: bm) = true from hbm) rfl T.noN (fun h₃ tk₃ dx k₃ dn dne hx₃ hn₃ => ?_)
    show wpAny _ _ (execs _ _) _ _ _
    have z : s.heap.objs.size < h₁.objs.size := hn.lt
    exact wpAny_execs_nil (hq h₃ tk₃ dx ⟨fun b o hb e => k₃ b o hb (k b o e), hx₃, Nat.le_of_lt (Nat.lt_of_lt_of_le z dn), dne, hn₃⟩)
theorem low_made (T : XgTxt nx qi fl K mg C fI) {v : Value} (X : K.In s.heap) (hlim : s.heap.NoLimit) (hroom : A.depth + 1 < recursionLimit)
    (hq : ∀ h' tk e d, OwnMade fl s.heap h' e C d v → R (.ok (.ret (.ref e))) { s with heap := h', toks := tk }) :
    codeAny (model prog w) A (.call (.ref C) ⟨[v], []⟩) R s := by
  obtain ⟨nm, q, N, bs, bm, sn, sub, ab, col, dd, k0, k1, k2, k3, k5, hC, hbm⟩ := T.cls
  obtain ⟨hp, g, dr, tk, os⟩ := s
  have k : ∀ b o, hp.get? b = some o → ((hp.push (kdv_tup [v])).push (excO C hp.objs.size)).get? b = some o := fun b o e => Heap.get?_push_of_some _ (Heap.get?_push_of_some _ e)
  have hget : ((hp.push (kdv_tup [v])).push (excO C hp.objs.size)).get? (hp.objs.size + 1) = some (excO C hp.objs.size) := by heap_get
  have hnx : K.lookup (hp.objs.size + 1) = none := by
    cases e : K.lookup (hp.objs.size + 1) with
    | none => rfl
    | some o =>
      have z : hp.get? (hp.objs.size + 1) = some o := X _ _ e
      exact absurd (Nat.lt_of_succ_lt (Heap.lt_size z)) (Nat.lt_irrefl _)
  refine call_own F.excBase_ValueError (fun X => refsVE_contains X bm hbm) (X _ _ hC) (looks_findIn X T.iC) (fun self => bind_fn X self T.tC) (one_size v) ?_
  refine low_init (s := ⟨(hp.push (kdv_tup [v])).push (excO C hp.objs.size), g, dr, tk, os⟩) T (X.keeps k) (hlim.keeps k) hget hnx ?_ fun h' tk' dx ⟨k', hx, dn, dne, hns⟩ => ?_
  · show A.depth + 1 < recursionLimit
    exact hroom
  · have old : ∀ b o, hp.get? b = some o → h'.get? b = some o := fun b o e => k' b o (Nat.ne_of_lt (Nat.lt_succ_of_lt (Heap.lt_size e))) (k b o e)
    have z : hp.objs.size + 1 + 1 ≤ dx := by
      first
        | (simpa only [Heap.size_push] using dn)
        | exact dn
        | (have q := dn; rw [Heap.size_push, Heap.size_push] at q; exact q)
    exact ⟨rfl, hq h' tk' (hp.objs.size + 1) dx ⟨old, Nat.le_succ _, ⟨_, _, hx, rfl, rfl, rfl, rfl⟩, Nat.le_trans (Nat.le_trans (Nat.le_succ _) (Nat.le_succ _)) z, dne, hns⟩⟩
end
end XgX
end PySem
namespace L2
open PySem PySem.Spec PyProof.Rows
theorem relO_low {fl : Str} {v : V} {v' : Value} (r : RelV v v') (f : Str) : RelO (List.lookup f [(fl, v)]) (if f = fl then some v' else none) := by
  by_cases hw : f = fl
  · subst hw
    rw [if_pos rfl]
    have q : List.lookup f [(f, v)] = some v := by simp [List.lookup]
    rw [q]
    exact r
  · rw [if_neg hw]
    have qw : (f == fl) = false := by simpa using hw
    have q2 : List.lookup f [(fl, v)] = none := by simp [List.lookup, qw]
    rw [q2]
    trivial
section
variable {X : Cx} {nx qi fl : Str} {C fI : Addr}
/-- Low(e) -/
def tMkLow (fl : Str) (C : Addr) (ta : TA) : St → Hp → XK → Prop := fun σ H Q => ta σ H fun vs H1 => ∃ v, vs = [v] ∧ ∀ d, H1 d = none → Q (.ref C) (some d) (upd H1 d (.xd [(fl, v)]))
theorem pmk_low {a : Expr} {ta : TA} {p pos : Pos} {k : Nat} (T : PySem.XgX.XgTxt nx qi fl X.K X.mg C fI) (hr : Room k X.A) (ha : PA X [a] ta) (hg : Gl X nx := by rfl) (hdb : (nx == ("__debug__" : Str)) = false := by decide)
    (he : starEach (a :: []) X.env = (false, eval a X.env) :: starEach [] X.env := by rfl) (hpl : (backTo pos (starEach [] X.env)).any (·.1) = false := by rfl) :
    PMk X (.Call (.Name nx p) [a] [] pos) (tMkLow fl C ta) := by
  intro pins s σ H Q I h
  refine wpAny_Call_Name_kw (ld_glob I hg T.gC ?_ hdb)
  refine PySem.W.callWith_K (h₀ := X.base) I.ok.mod.kin T.kC (thn (ha.run pos pins s σ H _ I h) fun us s1 hh => ?_) he hpl
  obtain ⟨vs, H1, I1, r1, v, ev, q1⟩ := hh
  subst ev
  refine ⟨I1.kIn, ?_⟩
  cases r1 with
  | cons rv rn =>
    rename_i v' us'
    cases rn
    show wpAny _ _ (call (.ref C) [v']) _ _ _
    have hlim := I1.nolimit
    obtain ⟨hp, g, dr, tk, os⟩ := s1
    refine wpAny_call (PySem.XgX.low_made T I1.kIn hlim (by have := hr.dp; omega) fun h' tk' e d M => ?_)
    show MkP X pins σ Q (.ref e) ⟨h', g, dr, tk', os⟩
    obtain ⟨oe, fv, hoe, hc, hd, hdat, h1⟩ := M.obj
    have hns := M.ns
    obtain ⟨G', g1, g2⟩ := restrict h' fun b => decide (b ≠ e)
    have gk : ∀ b, b ≠ e → G'.get? b = h'.get? b := fun b hb => g1 b (decide_eq_true hb)
    have ge : G'.get? e = none := g2 e (by simp)
    have old : ∀ b o, hp.get? b = some o → G'.get? b = some o := fun b o q => (gk b (Nat.ne_of_lt (Nat.lt_of_lt_of_le (Heap.lt_size q) M.new))).trans (M.keep b o q)
    have ob : ObjOk X.prog X.w (upd H1 d (.xd [(fl, v)])) G' d (.xd [(fl, v)]) :=
      ⟨_, hns.at (fun o q => (gk d M.dne).trans q), fun f => relO_low rv f⟩
    have J : Inv X pins σ (upd H1 d (.xd [(fl, v)])) ⟨G', g, dr, tk', os⟩ := I1.laid (t' := tk') old M.dbig ob
    refine ⟨e, oe, fv, ⟨G', g, dr, tk', os⟩, _, .ref C, some d, rfl, J, fun b o q => ?_, ge, hoe, ⟨hc, hd⟩, hdat, h1, ?_, rfl, I1.bare, raises_own T.exC T.tyC, q1 d (I1.hok.fresh M.dbig)⟩
    · by_cases hb : b = e
      · have q' : G'.get? b = some o := q
        rw [hb, ge] at q'; cases q'
      · exact (gk b hb).symm.trans q
    · rw [upd_ne (Ne.symm M.dne)]
      exact I1.hok.fresh M.new
/-- raise Low(e) -/
def tRaiseLow (fl : Str) (C : Addr) (W : WX) (ta : TA) : TS := fun _ σ H => tMkLow fl C ta σ H fun cls d H' => W cls d σ H'
theorem ps_raiseLow {a : Expr} {ta : TA} {W : WX} {p pos pos2 : Pos} {k : Nat} (hc : X.calm = true) (T : PySem.XgX.XgTxt nx qi fl X.K X.mg C fI) (hr : Room k X.A) (tk : Takes X W) (ha : PA X [a] ta) (hg : Gl X nx := by rfl) (hdb : (nx == ("__debug__" : Str)) = false := by decide)
    (he : starEach (a :: []) X.env = (false, eval a X.env) :: starEach [] X.env := by rfl) (hpl : (backTo pos (starEach [] X.env)).any (·.1) = false := by rfl) :
    PS X (.Raise (some (.Call (.Name nx p) [a] [] pos)) none pos2) (tRaiseLow fl C W ta) := ps_raise hc tk (pmk_low T hr ha hg hdb he hpl)
/-- low.by, low the exception that the suite holds (at a; its class cls, its dict d) -/
def tByLow (fl : Str) (C : Addr) (a : Addr) (cls : Value) (d : Option Addr) (te : TE) : TE := fun σ H Q => te σ H fun x H1 => x = .ref a ∧ cls = .ref C ∧ ∃ (dd : Addr) (v : V), d = some dd ∧ H1 dd = some (.xd [(fl, v)]) ∧ Q v H1
theorem pe_byLow {a : Addr} {oe : Obj} {cls : Value} {d : Option Addr} {pn : List (Addr × Obj)} {e : Expr} {te : TE} {pos : Pos} (T : PySem.XgX.XgTxt nx qi fl X.K X.mg C fI) (hz : Zc cls d oe) (hf : ∃ vs, oe.data = .fields vs) (he : PE (X.suite a ((a, oe) :: pn)) e te)
    (hb : attributeBase e fl X.env (eval e X.env) = eval e X.env := by rfl) :
    PE (X.suite a ((a, oe) :: pn)) (.Attribute e fl pos) (tByLow fl C a cls d te) := by
  refine ⟨fun pins s σ H Q I h => ?_⟩
  refine attr_of hb (thn (he.run pins s σ H _ I h) fun u s1 hh => ?_)
  obtain ⟨x, H1, I1, rx, ex, ec, dd, v, ed, ea, q⟩ := hh
  subst ex
  obtain rfl : u = Value.ref a := rx
  subst ec
  subst ed
  obtain ⟨ha, _⟩ := I1.pin (a, oe) (List.mem_append_left _ List.mem_cons_self)
  obtain ⟨vs, hd⟩ := hf
  have hx : ObjOk X.prog X.w H1 s1.heap dd (.xd [(fl, v)]) := I1.hok dd _ ea
  obtain ⟨mA, hns, hr⟩ := hx
  obtain ⟨od, ho, hl⟩ := lookIn_ns hns
  have l : List.lookup fl [(fl, v)] = some v := by simp [List.lookup]
  obtain ⟨u, hu, ru⟩ := RelO.some_of (v := v) (o := mA fl) (by rw [← l]; exact hr fl)
  have J : PySem.W.InstAt s1.heap a oe C (some od) := ⟨ha, hz.1, by unfold PySem.W.notCls; rw [hd] <;> rfl, by rw [hz.2]; exact ho⟩
  exact HandSPX.exc_get I1.kIn J T.ga T.gg T.exC (PySem.W.findObj_own T.hdC T.noN rfl (by rw [hl, hu])) (handed_of ru) ⟨v, H1, I1.tok _, ru, q⟩
end
end L2

namespace L2.G
open PySem PySem.Spec PyProof.Rows
section
variable {X : Cx} {c : Ct} {pos pos2 p : Pos} {W : WX} {r : RX} {x qi fl : Str} {C fI : Addr} {e : Expr} {fe : dE} {k : Nat}
def sRaise1 (x fl : Str) (fe : dE) (r : RX) : dS := fun _ ρ T => fe ρ T fun d T1 => r ⟨x, some (fl, d)⟩ ρ T1
theorem sx_raise1 (q : PySem.XgX.XgTxt x qi fl X.K X.mg C fI) (hc : X.calm = true) (hr : Room k X.A) (tk : Takes X W) (lk : Lk X c r W) (ha : PEd X e fe) (hg : Gl X x := by rfl) (hdb : (x == ("__debug__" : Str)) = false := by decide)
    (he : starEach (e :: []) X.env = (false, eval e X.env) :: starEach [] X.env := by rfl) (hpl : (backTo pos (starEach [] X.env)).any (·.1) = false := by rfl) :
    PSx X c (.Raise (some (.Call (.Name x p) [e] [] pos)) none pos2) (sRaise1 x fl fe r) := by
  refine ps_imp (ps_raiseLow hc q hr tk (a_cons ha a_nil he) hg hdb he hpl) fun E σ H h => ?_
  obtain ⟨ρ, T, F, K, w, s, h, _⟩ := h
  refine ⟨ρ, T, c.t, F, (fun as T1 => match as with | [.val d] => r ⟨x, some (fl, d)⟩ ρ T1 | _ => False), w.w, h, fun vs H1 F1 as T1 w1 g1 r1 h1 => ?_⟩
  match as, r1, h1 with
  | _, .val (d := d) (v := v) rv .nil, h1 =>
    refine ⟨v, rfl, fun dd hd => ?_⟩
    have g2 := grow_own (t := c.t) (o := .xd [(fl, v)]) w1.sub hd
    exact lk ⟨x, some (fl, d)⟩ ρ T1 F1 _ (.ref C) (some dd) σ (w.grow (g1.trans g2) (wt_own w1 hd)) (s.trans g1.sub) ⟨q.gC, dd, v, rfl, upd_same, rv⟩ h1
end
end L2.G
namespace L2.G
open PySem PySem.Spec PyProof.Rows
theorem Ws.putG {K : PySem.W.Frag} {ρ : En} {T : Tk} {t : Option Addr} {σ : L2.St} {F0 H0 F H : Hp} (w : Ws K ρ T t σ F0 H0 F H) {i : Nat} {s : Option SV} {v : Option V} (hs : ∀ s', s = some s' → (∃ u, v = some u ∧ SlotR K t F H s' u) ∧ ∀ xs, s' ≠ .own xs) : Ws K (ρ.set i s) T t (σ.set i v) F0 H0 F H := by
  refine ⟨⟨w.w.wt, by simpa using w.w.len, fun j s' e => ?_, fun j j' xs ys l e1 e2 e3 e4 => ?_⟩, w.g, fun j xs l e1 e2 => ?_⟩
  · rcases getSet e with ⟨rfl, hl, e'⟩ | ⟨ne, e'⟩
    · obtain ⟨⟨u, hu, hr⟩, _⟩ := hs s' e'.symm
      exact ⟨u, by rw [List.getElem?_set_self (by rw [← w.w.len]; exact hl), hu], hr⟩
    · obtain ⟨u, h1, h2⟩ := w.w.slot j s' e'
      exact ⟨u, by rw [List.getElem?_set_ne ne]; exact h1, h2⟩
  · rcases getSet e1 with ⟨_, _, z⟩ | ⟨n1, e1⟩
    · exact absurd rfl ((hs _ z.symm).2 xs)
    · rcases getSet e2 with ⟨_, _, z⟩ | ⟨n2, e2⟩
      · exact absurd rfl ((hs _ z.symm).2 ys)
      · rw [List.getElem?_set_ne n1] at e3
        rw [List.getElem?_set_ne n2] at e4
        exact w.w.apart j j' xs ys l e1 e2 e3 e4
  · rcases getSet e1 with ⟨_, _, z⟩ | ⟨ne, e1⟩
    · exact absurd rfl ((hs _ z.symm).2 xs)
    · rw [List.getElem?_set_ne ne] at e2
      exact w.fr j xs l e1 e2
def outA (i : Nat) (k : dEnds) : dEnds := { nx := fun ρ1 T1 => k.nx (ρ1.set i none) T1, rt := k.rt, bk := fun ρ1 T1 => k.bk (ρ1.set i none) T1, ct := fun ρ1 T1 => k.ct (ρ1.set i none) T1 }
/-- try .. except X as n -/
def sTryA (mt : Str → Option Bool) (i : Nat) (b : RX → dS) (s : ExD → Addr → Option Addr → dS) : dS := fun k ρ T =>
  b (fun e ρ' T' => mt e.nm = some true ∧ ∀ a dd, s e a (e.arg.map fun _ => dd) (outA i k) (ρ'.set i (some (.exc a (e.arg.map fun x => (dd, x.1, x.2))))) T') k ρ T
section
variable {X : Cx} {x n : Str} {cv : Value} {i : Nat} {body suite : List Stmt} {b₀ : Stmt} {np pos pos' : Pos} {b : RX → dS} {s : ExD → Addr → Option Addr → dS} {mt : Str → Option Bool}
theorem s_tryA (hs : X.stack = X.env :: X.outer) (hf : X.env.frame = some X.env.locals) (hN : X.N.Nodup) (hi : X.N[i]? = some n) (hln : X.env.kindOf n = some .local) (hc : Names X x cv)
    (hm : ∀ nm cls, mt nm = some true → X.mg nm = some cls → PySem.W.exmOne X.K cls cv = some true)
    (hb : ∀ (c : Ct) (r : RX) (W : WX) (pn : List (Addr × Obj)) (xe : Value → Shared → Prop), Takes (X.tr pn xe) W → Lk (X.tr pn xe) c r W → PSsx (X.tr pn xe) c body (b r))
    (hsu : ∀ (e : ExD) (a : Addr) (oe : Obj) (cls : Value) (d : Option Addr) (pn : List (Addr × Obj)), Zc cls d oe → (∃ vs, oe.data = .fields vs) → X.mg e.nm = some cls → PSsd (X.suite a ((a, oe) :: pn)) (b₀ :: suite) (s e a d)) :
    PSd X (.Try body [.ExceptHandler (some (.Name x np)) (some n) (b₀ :: suite) pos'] [] [] pos) (sTryA mt i b s) := by
  refine ps_imp (ps_try_as (i := i) (Wout := fun _ _ _ _ => False) (tb := fun W D σ H => ∃ c r, (∀ pn xe, Lk (X.tr pn xe) c r W) ∧ tDXS X.K c (b r) D σ H) (ts := fun a cls d E σ H => ∃ e : ExD, X.mg e.nm = some cls ∧ tDS X.K (s e a d) E σ H) hs hf hN hi hln hc (fun u s' ⟨_, _, _, _, _, _, _, _, _, _, _, _, _, _, _, _, h⟩ => h.elim)
    (fun W pn xe tk _ => ⟨fun pins s σ H D I ⟨c, r, lk, h⟩ => (hb c r W pn xe tk (lk pn xe)).run pins s σ H D I h⟩)
    (fun a oe cls d pn hz hf => ⟨fun pins s' σ H D I ⟨e, he, h⟩ => (hsu e a oe cls d pn hz hf he).run pins s' σ H D I h⟩)) fun D σ H h => ?_
  obtain ⟨ρ, T, t, F0, H0, F, k, w, h, fe⟩ := h
  refine ⟨⟨t, F0, H0, F⟩, _, fun pn xe e ρ' T' F' H' cls d σ' w' s' re hr => ?_, ρ, T, F, k, w, Same.refl _, h, fe⟩
  obtain ⟨rm, rg⟩ := re
  have gv : ∃ dd, (e.arg.map fun _ => dd) = d ∧ ∀ fl x, e.arg = some (fl, x) → t ≠ some dd ∧ ∃ u, H' dd = some (.xd [(fl, u)]) ∧ Rep X.K F' x u := by
    cases ea : e.arg with
    | none =>
      rw [ea] at rg
      exact ⟨0, rg.symm, fun _ _ z => nomatch z⟩
    | some x =>
      rw [ea] at rg
      obtain ⟨dd, v, e1, e2, e3⟩ := rg
      refine ⟨dd, e1.symm, fun y1 y z => ?_⟩
      cases z
      refine ⟨fun z => ?_, v, e2, e3⟩
      obtain ⟨_, us, hu, _⟩ := w'.w.wt.tank dd z
      rw [e2] at hu
      cases hu
  obtain ⟨dd, ed, hg⟩ := gv
  refine ⟨true, hm _ _ hr.1 rm, fun _ a ha => ⟨e, rm, _, T', t, F0, H0, F', outA i k, w'.putG (i := i) (v := some (.ref a)) fun s1 z => ?_, by rw [← ed]; exact hr.2 a dd, ?_⟩, fun q => nomatch q⟩
  · cases z
    refine ⟨⟨_, rfl, rfl, fun dd2 fl2 x q => ?_⟩, fun xs z => nomatch z⟩
    obtain ⟨y, hy, q2⟩ := Option.map_eq_some_iff.mp q
    cases q2
    exact hg _ _ hy
  · have fe' := fe.to s'
    have un : ∀ {ρ1 T1 σ1 F1 H1}, Ws X.K ρ1 T1 t σ1 F0 H0 F1 H1 → Ws X.K (ρ1.set i none) T1 t (σ1.set i none) F0 H0 F1 H1 := fun w1 => w1.putG fun _ z => nomatch z
    exact ⟨fun ρ1 T1 σ1 F1 H1 w1 s1 q => fe'.nx _ _ _ _ _ (un w1) s1 q, fe'.rt, fun ρ1 T1 σ1 F1 H1 w1 s1 q => fe'.bk _ _ _ _ _ (un w1) s1 q, fun ρ1 T1 σ1 F1 H1 w1 s1 q => fe'.ct _ _ _ _ _ (un w1) s1 q⟩
end
end L2.G
namespace L2.G
open PySem PySem.Spec PyProof.Rows
section
variable {X : Cx} {nm qi fl x : Str} {C fI a : Addr} {oe : Obj} {d : Option Addr} {pn : List (Addr × Obj)} {p pos : Pos}
/-- n.given in the suite, n in slot i -/
def dGiven (fl : Str) (i : Nat) (a : Addr) (d : Option Addr) : dE := fun ρ T k => match ρ[i]? with
  | some (some (.exc a' (some (dd, fl', x)))) => a' = a ∧ d = some dd ∧ fl' = fl ∧ k x T
  | _ => False
theorem d_given (i : Nat) (q : PySem.XgX.XgTxt nm qi fl X.K X.mg C fI) (hz : Zc (.ref C) d oe) (hf : ∃ vs, oe.data = .fields vs) (hN : X.N[i]? = some x) (hv : Vis X.env.scope x) (hd : (x == ("__debug__" : Str)) = false := by decide) (hc : (x == ("__classdict__" : Str)) = false := by decide)
    (hb : attributeBase (.Name x p) fl X.env (eval (.Name x p) X.env) = eval (.Name x p) X.env := by rfl) :
    PEd (X.suite a ((a, oe) :: pn)) (.Attribute (.Name x p) fl pos) (dGiven fl i a d) := by
  refine pe_imp (pe_byLow (te := tVar i) q hz hf (pe_var (X := X.suite a ((a, oe) :: pn)) hN hv hd hc) hb) fun σ H Q h => ?_
  obtain ⟨ρ, T, t, F, k, w, h, f⟩ := h
  unfold dGiven at h
  split at h
  · rename_i a' dd fl' y e
    obtain ⟨rfl, hd2, rfl, h⟩ := h
    obtain ⟨v, e1, ev, hg⟩ := w.slot i _ e
    obtain ⟨_, u, hu, ru⟩ := hg dd _ y rfl
    exact ⟨v, e1, ev, rfl, dd, u, hd2, hu, f.val w.wt ru h⟩
  · exact h.elim
end
end L2.G

set_option maxHeartbeats 2000000
/-! isinstance of a caught exception, with or without a dict -/
namespace PySem.W
open PySem PySem.Spec PySem.Calls PyProof.Rows
section
variable {prog : Program} {w : World} {A : Around} {E : Value → Shared → Prop} {s : Shared} {K : Frag} {x D : Addr} {ox : Obj} {od : Option Obj}
theorem findObj_dataG {C : Addr} {name : Str} {a g : Value} (hc : (clsIn K C).isSome = true) (ha : findIn K (.ref C) name = some (some a)) (hg : specialIn K a "__get__" = some (some g)) (ht : takesIn K a = some true) : findObj K C od name = some (.bind g a) := by
  obtain ⟨cd, hc⟩ := Option.isSome_iff_exists.mp hc
  unfold findObj
  rw [hc, Option.bind_some, ha, Option.bind_some]
  simp [hg, ht]
theorem kin_classG {Q : Option Value → Shared → Prop} (hga : findIn K (.ref D) "__getattribute__" = some (some (.builtin "BaseException.__getattribute__"))) (hgt : findIn K (.ref D) "__getattr__" = some none) (hsub : subIn K (.ref D) (.type "BaseException") = some true)
    (hdct : hasDictIn K D = true) (ha : findIn K (.ref D) "__class__" = some (some (.builtin "object.__class__")))
    (hn : specialIn K (.builtin "object.__class__") "__get__" = some (some (.builtin "getset_descriptor.__get__"))) (htk : takesIn K (.builtin "object.__class__") = some true) (hm : mroIn K D (.type "object") = some true)
    (X : K.In s.heap) (I : InstAt s.heap x ox D od) (h : Q (some (.ref D)) { s with toks := s.toks + 1 }) : wpAny (model prog w) A (getAttr? (.ref x) "__class__") Q E s := by
  have hf : findObj K D od "__class__" = some (.bind (.builtin "getset_descriptor.__get__") (.builtin "object.__class__")) := findObj_dataG (by obtain ⟨cd, hc, _⟩ := any_some hdct; rw [hc]; rfl) ha hn htk
  obtain ⟨hp, g, d, t, os⟩ := s
  have L0 := I.type (M := model prog w)
  have L1 := looks_findIn (M := model prog w) X hga
  have L2 := looks_findIn (M := model prog w) X hgt
  have L3 := looks_find (M := model prog w) X I hf
  have sub : Looks (model prog w) hp (isInstance (.ref x) (.type "BaseException")) true := L0.andThen (looks_subIn X hsub)
  have hx0 : (false && onTheHeap (Value.builtin "BaseException.__getattribute__")) = false := rfl
  have hx2 : (Value.builtin "BaseException.__getattribute__" == Value.builtin "object.__getattribute__") = false := by decide +kernel
  have hx1 : (onTheHeap (Value.ref D) && Value.builtin "BaseException.__getattribute__" == Value.builtin "object.__getattribute__") = false := by rw [hx2]; rfl
  unfold getAttr? getAttrBy? getAttrBy
  refine wpAny_bind (wpAny_mkText (wpAny_bind (wpAny_attempt (wpAny_holding (wpAny_bind (L0.at (wpAny_bind (L1.at ?_))))))))
  show wpAny _ _ (if (onTheHeap (Value.ref D) && Value.builtin "BaseException.__getattribute__" == Value.builtin "object.__getattribute__") = true then _ else _) _ _ _
  rw [hx1, if_neg Bool.false_ne_true]
  unfold getAttrByItsOwn hookBefore
  refine wpAny_bind ?_
  rw [if_pos (show onTheHeap (Value.ref D) = true from rfl)]
  refine L2.at ?_
  refine wpAny_bind (wpAny_attempt (wpAny_holding ?_))
  unfold callGetattribute
  rw [hx0, if_neg Bool.false_ne_true]
  unfold boundAndCalled
  rw [PySem.F.excAttr_ValueError.ga.bind (.ref x)]
  refine wpAny_bind (wpAny_pure ?_)
  show wpAny _ _ (call (.builtin "BaseException.__getattribute__") [.ref x, .str "__class__" t]) _ _ _
  refine wpAny_call (codeAny_call_builtin PySem.F.excAttr_ValueError.ga.plain PySem.F.entry_bexc_ga ?_)
  refine @check_slot (model prog w) _ _ ⟨hp, g, d, t + 1, os⟩ "BaseException.__getattribute__" "BaseException" "__getattribute__" (.ref x) [.str "__class__" t] [] _ (by decide +kernel) (by decide +kernel) sub (PySem.F.args_bexc_ga (.ref x) (.str "__class__" t)) ?_
  unfold Builtin.«object.__getattribute__»
  refine wpAny_bind (wpAny_of_eq (a := ((Value.ref x : Value), [Value.str "__class__" t])) (by first | rfl | (simp only [slotArgs]; rfl)) ?_)
  refine wpAny_bind (wpAny_pure (wpAny_bind (L0.at (wpAny_bind (L3.at ?_)))))
  show wpAny _ _ (holding [Value.builtin "object.__class__"] (call (.builtin "getset_descriptor.__get__") [.builtin "object.__class__", .ref x, .ref D]) >>= ret) _ _ _
  refine wpAny_bind (wpAny_holding (wpAny_call (class_get (s := ⟨hp, g, d, t + 1, os⟩) (ox := ox) (od := od) X I hm ?_)))
  refine wpAny_pure ?_
  show wpAny _ _ (handedOut (.ref D)) _ _ _
  rw [handedOut_of (v := .ref D) rfl]
  first
    | exact wpAny_pure (wpAny_pure h)
    | exact wpAny_pure h
    | exact wpAny_pure (wpAny_bind (wpAny_pure (wpAny_pure h)))
theorem kitx_excG (hga : findIn K (.ref D) "__getattribute__" = some (some (.builtin "BaseException.__getattribute__"))) (hgt : findIn K (.ref D) "__getattr__" = some none) (hsub : subIn K (.ref D) (.type "BaseException") = some true) (hdct : hasDictIn K D = true) (ha : findIn K (.ref D) "__class__" = some (some (.builtin "object.__class__")))
    (hn : specialIn K (.builtin "object.__class__") "__get__" = some (some (.builtin "getset_descriptor.__get__"))) (htk : takesIn K (.builtin "object.__class__") = some true) (hm : mroIn K D (.type "object") = some true) :
    KitX K (.ref x) (.ref D) (fun h => InstAt h x ox D od) where
  ty := fun _ _ _ I => I.type
  it := fun _ _ X _ => by
    obtain ⟨cdD, hcD, _⟩ := any_some hdct
    unfold clsIn at hcD
    split at hcD
    · rename_i c' d' cd' sl' ho
      intro A' Q' E' s' k q
      unfold isType loadHead
      exact wpAny_bind (wpAny_loadPart (k _ _ (X _ _ ho)) (wpAny_pure q))
    · cases hcD
  ne := fun h tp dd its n sl X htp => by
    obtain ⟨cdD, hcD, _⟩ := any_some hdct
    refine Bool.eq_false_iff.mpr fun q => ?_
    have e : D = tp := Value.ref.inj (beq_iff_eq.mp q)
    subst e
    unfold clsIn at hcD
    split at hcD
    · rename_i c' d' cd' sl' ho
      have z := (X _ _ ho).symm.trans htp
      cases z
    · cases hcD
  ca := fun X I k => kin_classG hga hgt hsub hdct ha hn htk hm X I k
end
end PySem.W
namespace L2
open PySem PySem.Spec PyProof.Rows
theorem call_isG {X : Cx} {a D : Addr} {oe : Obj} {d : Option Addr} {pn : List (Addr × Obj)} (C : ExcC X.K D) (hz : Zc (.ref D) d oe) (hf : ∃ vs, oe.data = .fields vs) : CallR (X.suite a ((a, oe) :: pn)) (.builtin "isinstance") (fun xs H Q => (∀ dd, d = some dd → ∃ es, H dd = some (.xd es)) ∧ rIsE X.K D a xs H Q) := by
  intro pins s σ H xs us Q I r h
  obtain ⟨hdd, c, cv, b, rfl, hcv, e, q⟩ := h
  cases r with
  | cons rx rr =>
    cases rr with
    | cons rt rr =>
      cases rr
      cases rx
      have ec := hcv _ rt
      subst ec
      obtain ⟨hget, _⟩ := I.pin (a, oe) (List.mem_append.mpr (.inl List.mem_cons_self))
      obtain ⟨vs, hv⟩ := hf
      have J : ∃ od, PySem.W.InstAt s.heap a oe D od := by
        obtain ⟨oc, od, oda, osl⟩ := oe
        obtain ⟨h1, h2⟩ := hz
        dsimp only at h1 h2 hv
        subst h1 h2 hv
        cases od with
        | none => exact ⟨none, hget, rfl, rfl, trivial⟩
        | some dd =>
          obtain ⟨es, hes⟩ := hdd dd rfl
          obtain ⟨mA, hns, _⟩ := I.hok dd _ hes
          obtain ⟨od, ho, _⟩ := lookIn_ns hns
          exact ⟨some od, hget, rfl, rfl, ho⟩
      obtain ⟨od, J⟩ := J
      exact PySem.W.kia_one (PySem.W.kitx_excG C.hg C.hk C.hs C.hd C.ha C.hn C.ht C.hm) I.kIn J e (fun z => nomatch z) fun tk => ⟨.bl b, H, I.kept (t' := tk) fun _ _ z => z, rfl, q⟩
end L2
namespace L2.G
open PySem PySem.Spec PyProof.Rows
section
variable {X : Cx} {x cn : Str} {a : Addr} {oe : Obj} {cls : Value} {d : Option Addr} {pn : List (Addr × Obj)} {p p2 p3 pos : Pos} {cv : Value} {cx : V} {ob : Option Bool}
/-- isinstance(n, C) in the suite, n in slot i -/
def dIsE (i : Nat) (a : Addr) (d : Option Addr) (ob : Option Bool) : dE := fun ρ T k => match ob, ρ[i]? with
  | some b, some (some (.exc a' g)) => a' = a ∧ d = g.map (·.1) ∧ k (.bl b) T
  | _, _ => False
theorem d_isE (i : Nat) (hk : ∀ b, ob = some b → ∃ D, cls = .ref D ∧ ExcC X.K D ∧ PySem.W.kitOne X.K (.ref D) cv = some b) (hz : Zc cls d oe) (hf : ∃ vs, oe.data = .fields vs) (hc : PE (X.suite a ((a, oe) :: pn)) (.Name cn p2) (tC cx)) (hcx : ∀ u, RelV cx u → u = cv)
    (hm : X.mg "isinstance" = none) (hN : X.N[i]? = some x) (hv : Vis X.env.scope x) (hd : (x == ("__debug__" : Str)) = false := by decide) (hcd : (x == ("__classdict__" : Str)) = false := by decide) (hg : Gl X "isinstance" := by rfl)
    (hs : starEach [.Name x p, .Name cn p2] X.env = (false, eval (.Name x p) X.env) :: starEach [.Name cn p2] X.env := by rfl) (hp : (backTo pos (starEach [.Name cn p2] X.env)).any (·.1) = false := by rfl) :
    PEd (X.suite a ((a, oe) :: pn)) (.Call (.Name "isinstance" p3) [.Name x p, .Name cn p2] [] pos) (dIsE i a d ob) := by
  match ob, hk with
  | none, _ =>
    exact ⟨fun pins s σ H Q I h => by obtain ⟨ρ, T, t, F, k, w, h, f⟩ := h; exact h.elim⟩
  | some b, hk =>
    obtain ⟨D, rfl, C, hk⟩ := hk b rfl
    refine pe_imp (pe_callB (call_isG C hz hf) hg hm (by decide +kernel) (pa_cons (pe_var (X := X.suite a ((a, oe) :: pn)) hN hv hd hcd) (pa_cons hc pa_nil) hs) (by decide) (by decide) hs hp) fun σ H Q h => ?_
    obtain ⟨ρ, T, t, F, k, w, h, f⟩ := h
    unfold dIsE at h
    split at h
    · rename_i b' a' g eb e
      cases eb
      obtain ⟨rfl, hd2, h⟩ := h
      obtain ⟨v, e1, ev, hg⟩ := w.slot i _ e
      subst ev
      refine ⟨_, e1, fun dd q => ?_, cx, cv, b, rfl, hcx, hk, f.val w.wt (.bl _) h⟩
      rw [hd2] at q
      obtain ⟨⟨d1, fl, y⟩, rfl, e2⟩ := Option.map_eq_some_iff.mp q
      cases e2
      obtain ⟨_, u, hu, _⟩ := hg _ _ _ rfl
      exact ⟨_, hu⟩
    · exact h.elim
/-- n.given in the suite -/
def dGivE (fl : Str) (i : Nat) (a : Addr) (d : Option Addr) (ok : Bool) : dE := fun ρ T k => ok = true ∧ dGiven fl i a d ρ T k
theorem d_givE {nm fl : Str} {ok : Bool} (i : Nat) (hk : ok = true → ∃ qi C fI, cls = .ref C ∧ PySem.XgX.XgTxt nm qi fl X.K X.mg C fI) (hz : Zc cls d oe) (hf : ∃ vs, oe.data = .fields vs) (hN : X.N[i]? = some x) (hv : Vis X.env.scope x) (hd : (x == ("__debug__" : Str)) = false := by decide) (hc : (x == ("__classdict__" : Str)) = false := by decide)
    (hb : attributeBase (.Name x p) fl X.env (eval (.Name x p) X.env) = eval (.Name x p) X.env := by rfl) :
    PEd (X.suite a ((a, oe) :: pn)) (.Attribute (.Name x p) fl pos) (dGivE fl i a d ok) := by
  cases ok with
  | false => exact ⟨fun pins s σ H Q I h => by obtain ⟨ρ, T, t, F, k, w, h, f⟩ := h; exact absurd h.1 (by decide)⟩
  | true =>
    obtain ⟨qi, C, fI, rfl, q⟩ := hk rfl
    refine pe_imp (d_given i q hz hf hN hv hd hc hb) fun σ H Q h => ?_
    obtain ⟨ρ, T, t, F, k, w, h, f⟩ := h
    exact ⟨ρ, T, t, F, k, w, h.2, f⟩
end

/-! calls that may raise within other expressions -/
section
variable {X : Cx} {c : Ct} {e a b : Expr} {es : List Expr} {fe fa fb : dE} {fr : dA} {ft : dT} {f g : dS} {pos p : Pos} {n : Nat} {x : Str} {ps : List Str} {sem : Sem}
end
end L2.G
/-! l.count(True), l.index(True) of lists of truth values -/
namespace L2
open PySem PySem.Spec PyProof.Rows
section
variable {X : Cx}
def rCntD (K : PySem.W.Frag) : V → List V → Hp → VK → Prop := fun x xs H Q => ∃ (a : Addr) (y : V) (d : PyData) (ds : List PyData), x = V.ref a ∧ xs = [y] ∧ Dp K H (V.ref a) (.list ds) ∧ Dp K H y d ∧
  SeqAt.shaped (.list ds) = true ∧ SeqAt.shaped d = true ∧ Q (.int (ds.countP fun z => PyData.eqv z d : Nat)) H
theorem mt_countD (hu : X.A.units + 65 < cLine) : MtR X "list.count" (rCntD X.K) := by
  intro pins s σ H x xs v us Q I rx rxs h
  obtain ⟨a, y, d, ds, rfl, rfl, hl, hy, sl, sd, q⟩ := h
  cases rx
  cases rxs with
  | cons ry rt =>
    rename_i uy ut
    cases rt
    obtain ⟨bs, r1⟩ := Dp.reads I d y uy hy ry
    have hxs : PyData.canLayAll0 ds = true := SeqAt.canLay_of_shaped sl
    have hroom : X.A.units + 1 + min (PyData.depthAll ds) d.depth < cLine := room_in_shaped sd hu
    cases hl with
    | lst hs ha =>
      obtain ⟨its, rv, ⟨⟨cls, dd, data, sls⟩, n, ho, hc, hdn, hdt⟩, hlen⟩ := I.list hs
      simp only at hc hdt
      subst hc hdt
      obtain ⟨as, h4⟩ := Dp.readsAll I ds _ its ha rv
      have hmap : its.map (SeqAt.readOf s.heap) = ds := SeqAt.readsAll_map ds its as hxs h4
      refine call_meets PySem.F.slot_list_count ⟨_, ho, rfl⟩ PySem.F.entry_list_count (PySem.F.args_list_count_2 _ _)
        (SeqAt.list_countAt a its.toArray n dd sls uy (fun u => PyData.eqv (SeqAt.readOf s.heap u) d)) ⟨ho, SeqAt.items_eqAt (vs := its.toArray) (show ReadsAll s.heap its.toArray.toList ds as from h4) r1 hxs (SeqAt.canLay_of_shaped sd) hroom, ?_⟩
      have ec : its.toArray.toList.countP (fun u => PyData.eqv (SeqAt.readOf s.heap u) d) = ds.countP fun z => PyData.eqv z d := by
        rw [← hmap, List.countP_map]
        rfl
      refine ⟨.int (ds.countP fun z => PyData.eqv z d : Nat), H, I.tok _, ⟨s.toks, ?_⟩, q⟩
      rw [ec]
end
end L2
namespace L2.G
open PySem PySem.Spec PyProof.Rows
def cntT : List Bool → Int | [] => 0 | true :: r => cntT r + 1 | false :: r => cntT r
theorem cntT_nil : cntT [] = 0 := rfl
theorem cntT_t {r : List Bool} : cntT (true :: r) = cntT r + 1 := rfl
theorem cntT_f {r : List Bool} : cntT (false :: r) = cntT r := rfl
def idxT : List Bool → Option Nat | [] => none | true :: _ => some 0 | false :: r => (idxT r).map (· + 1)
theorem idxT_f {r : List Bool} : idxT (false :: r) = (idxT r).map (· + 1) := rfl
theorem eqv_bt {b : Bool} : PyData.eqv (.bool b) (.bool true) = b := by cases b <;> decide +kernel
theorem pyL_bl : ∀ {bs : List Bool}, D.pyL (bs.map D.bl) = bs.map PyData.bool
  | [] => rfl
  | b :: r => by simp only [List.map_cons, D.pyL, D.py, pyL_bl (bs := r)]
theorem cntT_py : ∀ {bs : List Bool}, (((bs.map PyData.bool).countP fun z => PyData.eqv z (.bool true) : Nat) : Int) = cntT bs
  | [] => rfl
  | b :: r => by
    rw [List.map_cons, List.countP_cons, eqv_bt]
    have ih := cntT_py (bs := r)
    cases b
    · rw [cntT_f, ← ih]; rfl
    · rw [cntT_t, ← ih]; rfl
theorem idxT_py : ∀ {bs : List Bool} {i : Nat}, idxT bs = some i → bs[i]? = some true ∧ ∀ m, m < i → bs[m]? = some false
  | [], i, h => nomatch h
  | true :: r, i, h => by cases h; exact ⟨rfl, fun m hm => absurd hm (Nat.not_lt_zero m)⟩
  | false :: r, i, h => by
    rw [idxT_f] at h
    obtain ⟨j, hj, rfl⟩ := Option.map_eq_some_iff.mp h
    obtain ⟨h1, h2⟩ := idxT_py hj
    refine ⟨h1, fun m hm => ?_⟩
    cases m with
    | zero => rfl
    | succ m => exact h2 m (by omega)
def cntR (g : List Bool → Option Int) (P : Prop) (o : Option (List Bool)) : PD := match o with | some bs => (match g bs with | some i => some (P, .int i) | none => none) | none => none
theorem cntR_some {g : List Bool → Option Int} {P : Prop} {bs : List Bool} {i : Int} (h : g bs = some i) : cntR g P (some bs) = some (P, .int i) := by unfold cntR; simp only [h]
def fCntT : D → D → PD | .lst xs, .bl true => cntR (fun bs => some (cntT bs)) (D.eqOk (.lst xs)) (bls? xs) | _, _ => none
def fIdxT : D → D → PD | .lst xs, .bl true => cntR (fun bs => (idxT bs).map Int.ofNat) (D.eqOk (.lst xs)) (bls? xs) | _, _ => none
theorem fCntT_lst {xs : List D} : fCntT (.lst xs) (.bl true) = cntR (fun bs => some (cntT bs)) (D.eqOk (.lst xs)) (bls? xs) := rfl
theorem fIdxT_lst {xs : List D} : fIdxT (.lst xs) (.bl true) = cntR (fun bs => (idxT bs).map Int.ofNat) (D.eqOk (.lst xs)) (bls? xs) := rfl
def dMt (o : Op2) (fo fx : dE) : dE := fun ρ T k => fo ρ T fun x T1 => ∃ xs, x = .lst xs ∧ fx ρ T1 fun y T2 => o x y fun d => k d T2
section
variable {X : Cx} {o e : Expr} {fo fe : dE} {apos cpos : Pos} {n : Nat}
theorem mt_go {K : PySem.W.Frag} {R : V → List V → Hp → VK → Prop} {op : Op2} {fo fe : dE} {σ : L2.St} {H : Hp} {Q : VK}
    (s : ∀ {t : Option Addr} {F H : Hp} {T : Tk} {x y : D} {v w : V} {k : KD} {Q : VK}, Wt K T t F H → Rep K F x v → Rep K F y w → op x y (fun d => k d T) → Fin K t F H k Q → R v [w] H Q)
    (h : tD K (dMt op fo fe) σ H Q) : tBM K "list" R (tD K fo) (tDA K (aCons fe aNil)) σ H Q := by
  obtain ⟨ρ, T, t, F, k, w, h, f⟩ := h
  refine ⟨ρ, T, t, F, _, w, h, fun v H1 F1 x T1 w1 g1 r1 h1 => ?_⟩
  obtain ⟨xs, rfl, h1⟩ := h1
  obtain ⟨a, us, rfl, ha, ra⟩ := rep_lst r1
  refine ⟨.inl ⟨rfl, us, .of (w1.sub _ _ ha)⟩, ρ, T1, t, F1, (fun as T2 => match as with | [.val y] => op (.lst xs) y fun d => k d T2 | _ => False), w.grow g1 w1, h1, fun vs H2 F2 as T2 w2 g2 r2 h2 => ?_⟩
  match as, r2, h2 with
  | _, .val (d := d) (v := v) rv .nil, h2 => exact s w2 (r1.mono g2.sub) rv h2 (f.then (g1.trans g2))
theorem bls_py {xs : List D} {bs : List Bool} (e : bls? xs = some bs) : D.py (.lst xs) = .list (bs.map PyData.bool) := by
  rw [bls_some e]
  show PyData.list (D.pyL _) = _
  rw [pyL_bl]
theorem fCntT_ok {K : PySem.W.Frag} {t : Option Addr} {F H : Hp} {T : Tk} {x y : D} {v w : V} {k : KD} {Q : VK} (wt : Wt K T t F H) (r1 : Rep K F x v) (r2 : Rep K F y w) (q : oF fCntT x y (fun d => k d T)) (f : Fin K t F H k Q) : rCntD K v [w] H Q := by
  cases x with
  | lst xs =>
    cases y with
    | bl b =>
      cases b with
      | true =>
        have q : oF fCntT (.lst xs) (.bl true) (fun d => k d T) := q
        unfold oF at q
        rw [fCntT_lst] at q
        cases e : bls? xs with
        | none => rw [e] at q; exact q.elim
        | some bs =>
          rw [e, cntR_some rfl] at q
          obtain ⟨q1, q2⟩ := q
          have hp := r1.dp wt.sub q1.1
          have hs := q1.2
          rw [bls_py e] at hp hs
          obtain ⟨a, us, rfl, _, _⟩ := rep_lst r1
          cases r2
          refine ⟨a, _, .bool true, _, rfl, rfl, hp, .bl _, hs, by decide +kernel, ?_⟩
          rw [cntT_py]
          exact f.val wt (.int _) q2
      | false => exact q.elim
    | _ => exact q.elim
  | _ => exact q.elim
theorem fIdxT_ok {K : PySem.W.Frag} {t : Option Addr} {F H : Hp} {T : Tk} {x y : D} {v w : V} {k : KD} {Q : VK} (wt : Wt K T t F H) (r1 : Rep K F x v) (r2 : Rep K F y w) (q : oF fIdxT x y (fun d => k d T)) (f : Fin K t F H k Q) : rIndexD K v [w] H Q := by
  cases x with
  | lst xs =>
    cases y with
    | bl b =>
      cases b with
      | true =>
        have q : oF fIdxT (.lst xs) (.bl true) (fun d => k d T) := q
        unfold oF at q
        rw [fIdxT_lst] at q
        cases e : bls? xs with
        | none => rw [e] at q; exact q.elim
        | some bs =>
          rw [e] at q
          cases e2 : idxT bs with
          | none =>
            have : cntR (fun bs => (idxT bs).map Int.ofNat) (D.eqOk (.lst xs)) (some bs) = none := by unfold cntR; simp only [e2, Option.map_none]
            rw [this] at q
            exact q.elim
          | some j =>
            rw [cntR_some (i := (j : Int)) (by rw [e2] <;> rfl)] at q
            obtain ⟨q1, q2⟩ := q
            have hp := r1.dp wt.sub q1.1
            have hs := q1.2
            rw [bls_py e] at hp hs
            obtain ⟨a, us, rfl, _, _⟩ := rep_lst r1
            cases r2
            obtain ⟨h1, h2⟩ := idxT_py e2
            refine ⟨a, _, .bool true, _, j, .bool true, rfl, rfl, hp, .bl _, hs, by decide +kernel, by rw [List.getElem?_map, h1] <;> rfl, by decide +kernel, fun m z hm hz => ?_, f.val wt (.int _) q2⟩
            rw [List.getElem?_map, h2 m hm] at hz
            cases hz
            decide +kernel
      | false => exact q.elim
    | _ => exact q.elim
  | _ => exact q.elim
theorem d_cntT (hu : X.A.units + 66 < cLine) (ho : PEd X o fo) (he : PEd X e fe) (hb : attributeBase o "count" X.env (eval o X.env) = eval o X.env := by rfl)
    (hfew : ((backTo cpos (starEach [e] X.env)).all (fun x => !x.1) && (backToKw cpos (keywordEach [] X.env)).all (fun x => x.1.isSome)
      && decide (([e]).length + ([] : List Keyword).length + (if ([] : List Keyword).isEmpty then 0 else 1) < 30)) = true := by rfl)
    (hline : (apos.endLine == cpos.line) = true := by rfl) (hs : starEach [e] X.env = (false, eval e X.env) :: starEach [] X.env := by rfl) (hp : (backTo cpos (starEach [] X.env)).any (·.1) = false := by rfl) :
    PEd X (.Call (.Attribute o "count" apos) [e] [] cpos) (dMt (oF fCntT) fo fe) :=
  pe_imp (pe_bm PySem.F.plainAttrs_list PySem.F.slot_list_count PySem.F.type_list_count (mt_countD (by omega)) ho (a_cons he a_nil hs) hb hfew hline hs hp) fun _ _ _ h => mt_go (fun w r1 r2 q f => fCntT_ok w r1 r2 q f) h
theorem d_idxT (hu : X.A.units + 66 < cLine) (ho : PEd X o fo) (he : PEd X e fe) (hb : attributeBase o "index" X.env (eval o X.env) = eval o X.env := by rfl)
    (hfew : ((backTo cpos (starEach [e] X.env)).all (fun x => !x.1) && (backToKw cpos (keywordEach [] X.env)).all (fun x => x.1.isSome)
      && decide (([e]).length + ([] : List Keyword).length + (if ([] : List Keyword).isEmpty then 0 else 1) < 30)) = true := by rfl)
    (hline : (apos.endLine == cpos.line) = true := by rfl) (hs : starEach [e] X.env = (false, eval e X.env) :: starEach [] X.env := by rfl) (hp : (backTo cpos (starEach [] X.env)).any (·.1) = false := by rfl) :
    PEd X (.Call (.Attribute o "index" apos) [e] [] cpos) (dMt (oF fIdxT) fo fe) :=
  pe_imp (pe_bm PySem.F.plainAttrs_list PySem.F.slot_list_index PySem.F.type_list_index (mt_indexD (by omega)) ho (a_cons he a_nil hs) hb hfew hline hs hp) fun _ _ _ h => mt_go (fun w r1 r2 q f => fIdxT_ok w r1 r2 q f) h
end
/-! walking -/
def exK (ob : Option Bool) (s : Option (Option SV)) (a : Addr) (d : Option Addr) (T : Tk) (k : KD) (fz : Fz k := ⟨⟩) : Prop := match ob, s with
  | some b, some (some (.exc a' g)) => a' = a ∧ d = g.map (·.1) ∧ k (.bl b) T
  | _, _ => False
theorem exK_0 {b : Bool} {a : Addr} {T : Tk} {k : KD} : exK (some b) (some (some (.exc a none))) a none T k = k (.bl b) T := propext ⟨fun h => h.2.2, fun h => ⟨rfl, rfl, h⟩⟩
theorem exK_1 {b : Bool} {a dd : Addr} {x : Str × D} {T : Tk} {k : KD} : exK (some b) (some (some (.exc a (some (dd, x))))) a (some dd) T k = k (.bl b) T := propext ⟨fun h => h.2.2, fun h => ⟨rfl, rfl, h⟩⟩
def gvK (fl : Str) (s : Option (Option SV)) (a : Addr) (d : Option Addr) (T : Tk) (k : KD) (fz : Fz k := ⟨⟩) : Prop := match s with
  | some (some (.exc a' (some (dd, fl', x)))) => a' = a ∧ d = some dd ∧ fl' = fl ∧ k x T
  | _ => False
theorem gvK_1 {fl : Str} {a dd : Addr} {x : D} {T : Tk} {k : KD} : gvK fl (some (some (.exc a (some (dd, fl, x))))) a (some dd) T k = k x T := propext ⟨fun h => h.2.2.2, fun h => ⟨rfl, rfl, rfl, h⟩⟩
def mtK (x : D) (F : Prop) (fz : Fz F := ⟨⟩) : Prop := ∃ xs, x = .lst xs ∧ F
theorem mtK_go {xs : List D} {F : Prop} : mtK (.lst xs) F = F := propext ⟨fun ⟨_, _, h⟩ => h, fun h => ⟨xs, rfl, h⟩⟩
section
variable {ρ : En} {T : Tk} {k : KD} {o : Op2} {fe fo : dE} {fr : dA} {i n : Nat} {K : dEnds} {se : SemX} {r : RX} {x fl : Str} {a : Addr} {d : Option Addr} {ob : Option Bool}
theorem h_isE : dIsE i a d ob ρ T k = exK ob ρ[i]? a d T k := propext Iff.rfl
theorem h_givE : dGivE fl i a d true ρ T k = gvK fl ρ[i]? a d T k := propext ⟨fun h => h.2, fun h => ⟨rfl, h⟩⟩
theorem h_mt : dMt o fo fe ρ T k = fo ρ T fun x T1 => mtK x (fe ρ T1 fun y T2 => o x y fun d => k d T2) := propext Iff.rfl
theorem h_callX : dCallX n se r fr ρ T k = fr ρ T fun as T1 => callN n (se (fun e T => r e ρ T)) as T1 k := propext Iff.rfl
def raiK (r : RX) (x : Str) (g : Option (Str × D)) (ρ : En) (T : Tk) : Prop := r ⟨x, g⟩ ρ T
theorem raiK_go {r : RX} {x : Str} {g : Option (Str × D)} : raiK r x g ρ T = r ⟨x, g⟩ ρ T := propext Iff.rfl
theorem h_raise1 : sRaise1 x fl fe r K ρ T = fe ρ T fun d T1 => raiK r x (some (fl, d)) ρ T1 := propext Iff.rfl
theorem h_raise0 : sRaise0 x r K ρ T = raiK r x none ρ T := propext Iff.rfl
end
end L2.G
/-! the head's facts on classes -/
namespace L2.G
open PySem PySem.Spec PyProof.Rows
theorem xgC_of {K : PySem.W.Frag} {C : Addr} (q : xgC K C = true) : ∃ nm q N bs bm sn sub ab col dd k0 k1 k2 k3 k5, K.lookup C = some (PySem.excClassObj nm q C N bs bm true sn sub ab col dd k0 k1 k2 k3 k5 "ValueError.__new__") ∧ PySem.HandSPX.refsVE bm = true := by
  unfold xgC at q
  split at q
  · rename_i dd cd sl ho
    split at q
    · rename_i C' bm k0 k1 k2 k3 n k5 hm hs
      simp only [Bool.and_eq_true, beq_iff_eq, Bool.not_eq_true'] at q
      obtain ⟨⟨⟨⟨rfl, rfl⟩, hdel⟩, hdi⟩, ht⟩ := q
      obtain ⟨nm, bs, mro, ns, qn, hd, sn, sub, ab, col, del⟩ := cd
      dsimp only at hm hdel hdi
      subst hm hdel hdi
      have hsl : sl = #[k0, k1, k2, k3, some (.builtin "ValueError.__new__"), k5] := by
        obtain ⟨l⟩ := sl
        simp only at hs
        rw [hs]
      subst hsl
      exact ⟨nm, qn, ns, bs, bm, sn, sub, ab, col, dd, k0, k1, k2, k3, k5, ho, ht⟩
    · cases q
  · cases q
theorem exB_of {K : PySem.W.Frag} {C : Addr} (q : exB K C = true) : ExcC K C := by
  unfold exB at q
  simp only [Bool.and_eq_true, beq_iff_eq] at q
  obtain ⟨q1, q2, q3, q4, q5, q6, q7, q8⟩ := q
  exact ⟨q1, q2, q3, q4, q5, q6, q7, q8⟩
section
variable {z : Hd} {K : PySem.W.Frag} {h : Heap} {mg : Str → Option Value}
/-- the text of an __init__ that keeps what is given -/
def IniOk (fl : Str) (st : Stmt) : Prop := (fl = "given" ∨ fl = "index") ∧ ∃ p1 p2 q1 q2 q3 q4, defArgs st = PySem.XgX.iA fl p1 p2 ∧ defBody st = PySem.XgX.iB fl q1 q2 q3 q4 ∧ defScope st = PySem.XgX.iS fl
theorem Hd.Says.xg (X : K.In h) (G : h.Ns mainGlobals mg) (c : z.Says K) (i : Nat) {x fl qi : Str} {st : Stmt} (e : z.ini[i]? = some (x, fl, qi, st)) (hi : IniOk fl st) : ∃ C fI, PySem.XgX.XgTxt x qi fl K mg C fI := by
  obtain ⟨C, f, oc, od, osl, kV, doc, pm, an, cdv, ct, h1, h2, h3, h4⟩ := c.i _ (List.mem_of_getElem? e)
  obtain ⟨hfl, p1, p2, q1, q2, q3, q4, e1, e2, e3⟩ := hi
  unfold xgB at h2
  simp only [Bool.and_eq_true, beq_iff_eq] at h2
  obtain ⟨a1, a2, a3, a4, a5, a6, a7, a8, a9, b1, b2, b3⟩ := h2
  simp only [e1, e2, e3] at h3
  exact ⟨C, f, PySem.W.mg_of X G h1, xgC_of a1, a2, a3, a4, hfl, a5, a6, a7, a8, a9, b1, b2, b3, oc, od, kV, doc, pm, an, cdv, ct, osl, p1, p2, q1, q2, q3, q4, h3, h4⟩
theorem Hd.Says.io (X : K.In h) (G : h.Ns mainGlobals mg) (c : z.Says K) {cn : Str} {is : Str → Option Bool} (hcn : cn ∈ z.exs) (hm : ∀ nm b, is nm = some b → nm ∈ z.exs ∧ (nm, cn, b) ∈ z.kis) :
    ∃ C, mg cn = some (.ref C) ∧ ∀ nm cls, mg nm = some cls → ∀ b, is nm = some b → ∃ D, cls = .ref D ∧ ExcC K D ∧ PySem.W.kitOne K (.ref D) (.ref C) = some b := by
  obtain ⟨C, hC, _⟩ := c.e _ hcn
  have z3 := PySem.W.mg_of X G hC
  refine ⟨C, z3, fun nm cls hn b hb => ?_⟩
  obtain ⟨h1, h2⟩ := hm nm b hb
  obtain ⟨D, hD, eD⟩ := c.e _ h1
  obtain ⟨u, C', k1, k2, k3⟩ := c.ki _ h2
  have z1 := PySem.W.mg_of X G hD
  have z2 := PySem.W.mg_of X G k1
  have z4 := PySem.W.mg_of X G k2
  simp only at z2 z4
  rw [hn] at z1 z2
  rw [z3] at z4
  cases z1
  cases z2
  cases z4
  exact ⟨D, rfl, exB_of eD, k3⟩
theorem Hd.Says.ib (X : K.In h) (G : h.Ns mainGlobals mg) (c : z.Says K) {cn : String} {is : Str → Option Bool} (hm : ∀ nm b, is nm = some b → nm ∈ z.exs ∧ (nm, cn, b) ∈ z.kib) :
    ∀ nm cls, mg nm = some cls → ∀ b, is nm = some b → ∃ D, cls = .ref D ∧ ExcC K D ∧ PySem.W.kitOne K (.ref D) (.type cn) = some b := by
  intro nm cls hn b hb
  obtain ⟨h1, h2⟩ := hm nm b hb
  obtain ⟨D, hD, eD⟩ := c.e _ h1
  obtain ⟨u, k1, k3⟩ := c.kb _ h2
  have z1 := PySem.W.mg_of X G hD
  have z2 := PySem.W.mg_of X G k1
  simp only at z2
  rw [hn] at z1 z2
  cases z1
  cases z2
  exact ⟨D, rfl, exB_of eD, k3⟩
end
section
variable {X : Cx} {x cn : Str} {a : Addr} {oe : Obj} {cls : Value} {d : Option Addr} {pn : List (Addr × Obj)} {p p2 p3 pos : Pos} {ob : Option Bool}
theorem d_isO (i : Nat) {C : Addr} (hC : X.mg cn = some (.ref C)) (hk : ∀ b, ob = some b → ∃ D, cls = .ref D ∧ ExcC X.K D ∧ PySem.W.kitOne X.K (.ref D) (.ref C) = some b) (hz : Zc cls d oe) (hf : ∃ vs, oe.data = .fields vs)
    (hm : X.mg "isinstance" = none) (hN : X.N[i]? = some x := by rfl) (hv : Vis X.env.scope x := by first | exact Or.inl rfl | exact Or.inr (Or.inl rfl) | exact Or.inr (Or.inr rfl)) (hd : (x == ("__debug__" : Str)) = false := by decide) (hcd : (x == ("__classdict__" : Str)) = false := by decide) (hg : Gl X "isinstance" := by rfl)
    (hg2 : Gl X cn := by rfl) (hd2 : (cn == ("__debug__" : Str)) = false := by decide)
    (hs : starEach [.Name x p, .Name cn p2] X.env = (false, eval (.Name x p) X.env) :: starEach [.Name cn p2] X.env := by rfl) (hp : (backTo pos (starEach [.Name cn p2] X.env)).any (·.1) = false := by rfl) :
    PEd (X.suite a ((a, oe) :: pn)) (.Call (.Name "isinstance" p3) [.Name x p, .Name cn p2] [] pos) (dIsE i a d ob) :=
  d_isE i hk hz hf (pe_glob (X := X.suite a ((a, oe) :: pn)) (v := .ref C) hg2 hC rfl hd2) (fun _ r => r) hm hN hv hd hcd hg hs hp
theorem d_isB (i : Nat) {T : String} (hC : X.mg T = none) (hk : ∀ b, ob = some b → ∃ D, cls = .ref D ∧ ExcC X.K D ∧ PySem.W.kitOne X.K (.ref D) (.type T) = some b) (hz : Zc cls d oe) (hf : ∃ vs, oe.data = .fields vs)
    (hm : X.mg "isinstance" = none) (hb : bootBuiltins T = some (.type T) := by decide +kernel) (hN : X.N[i]? = some x := by rfl) (hv : Vis X.env.scope x := by first | exact Or.inl rfl | exact Or.inr (Or.inl rfl) | exact Or.inr (Or.inr rfl)) (hd : (x == ("__debug__" : Str)) = false := by decide) (hcd : (x == ("__classdict__" : Str)) = false := by decide) (hg : Gl X "isinstance" := by rfl)
    (hg2 : Gl X T := by rfl) (hn : (T : Str) ≠ "__name__" := by decide) (hd2 : ((T : Str) == ("__debug__" : Str)) = false := by decide)
    (hs : starEach [.Name x p, .Name T p2] X.env = (false, eval (.Name x p) X.env) :: starEach [.Name T p2] X.env := by rfl) (hp : (backTo pos (starEach [.Name T p2] X.env)).any (·.1) = false := by rfl) :
    PEd (X.suite a ((a, oe) :: pn)) (.Call (.Name "isinstance" p3) [.Name x p, .Name T p2] [] pos) (dIsE i a d ob) :=
  d_isE i hk hz hf (pe_bltn (X := X.suite a ((a, oe) :: pn)) (v := .ty T) hg2 hC hb rfl hn hd2) (fun _ r => r) hm hN hv hd hcd hg hs hp
theorem d_giv {nm fl : Str} {ok : Bool} (i : Nat) (hk : ok = true → ∃ qi C fI, cls = .ref C ∧ PySem.XgX.XgTxt nm qi fl X.K X.mg C fI) (hz : Zc cls d oe) (hf : ∃ vs, oe.data = .fields vs) (hN : X.N[i]? = some x := by rfl) (hv : Vis X.env.scope x := by first | exact Or.inl rfl | exact Or.inr (Or.inl rfl) | exact Or.inr (Or.inr rfl)) (hd : (x == ("__debug__" : Str)) = false := by decide) (hc : (x == ("__classdict__" : Str)) = false := by decide)
    (hb : attributeBase (.Name x p) fl X.env (eval (.Name x p) X.env) = eval (.Name x p) X.env := by rfl) :
    PEd (X.suite a ((a, oe) :: pn)) (.Attribute (.Name x p) fl pos) (dGivE fl i a d ok) := d_givE i hk hz hf hN hv hd hc hb
end
def initS (s : Stmt) : Stmt := match s with
  | .ClassDef _ _ _ (b :: _) _ _ _ _ _ _ _ => b
  | s => s
section
variable {X : Cx} {a b : Expr} {fa fb : dE} {pos : Pos}
theorem t_fneU (hu : X.A.units + 66 < cLine) (ha : PEd X a fa) (hb : PEd X b fb) : PTd X (.Compare a [.NotEq] [b] pos) (dTst (dOp (oF fNe) fa fb)) := d_tcmp (op_ne.or (op_neD (by omega))) (oNeU_ok.imp fun _ _ _ => fNe_ok) ha hb (nomark _)
end
end L2.G

set_option maxHeartbeats 2000000
namespace L2.G
open PySem PySem.Spec PyProof.Rows
/-! repr of a list of a text and an empty dict -/
def SysOk (K : PySem.W.Frag) : Prop := ∃ o, K.lookup sysModules = some o ∧ o.cls = .type "dict"
def ReprE (xs : List D) : Prop := ∃ w, xs = [.str w, .dct [] []] ∧ (PyData.list [.str w, .dict []]).showable = true ∧ (PyData.list [.str w, .dict []]).shown.length ≤ sizeLine
def fReprE : List D → PD
  | [.lst xs] => some (D.shOk (.lst xs) ∨ ReprE xs, .str (D.py (.lst xs)).shown)
  | ds => fRepr ds
theorem fReprE_lst {xs : List D} : fReprE [.lst xs] = some (D.shOk (.lst xs) ∨ ReprE xs, .str (D.py (.lst xs)).shown) := rfl
theorem fReprE_tup {xs : List D} : fReprE [.tup xs] = some (D.shOk (.tup xs), .str (D.py (.tup xs)).shown) := rfl
theorem fReprE_int {i : Int} : fReprE [.int i] = some (i.natAbs.log2 < 1920, .str (toString i)) := rfl
theorem fReprE_bl {b : Bool} : fReprE [.bl b] = some (True, .str (if b then "True" else "False")) := rfl
theorem fReprE_non : fReprE [.non] = some (True, .str "None") := rfl
def spReprE (K : PySem.W.Frag) : List V → Hp → VK → Prop := fun xs H Q => ((∃ a d, xs = [.ref a] ∧ Dp K H (.ref a) d ∧ SeqAt.shaped d = true ∧ d.showable = true ∧ d.shown.length ≤ sizeLine ∧ Q (.str d.shown) H) ∨ ((∃ i, xs = [.int i] ∧ i.natAbs.log2 < 1920 ∧ Q (.str (toString i)) H) ∨ (∃ b : Bool, xs = [.bl b] ∧ Q (.str (if b then "True" else "False")) H) ∨ (xs = [.non] ∧ Q (.str "None") H))) ∨
  ∃ a b w, xs = [.ref a] ∧ H a = some (.lst [.str w, .ref b]) ∧ H b = some (.dK []) ∧ (PyData.list [.str w, .dict []]).showable = true ∧ (PyData.list [.str w, .dict []]).shown.length ≤ sizeLine ∧ Q (.str (PyData.list [.str w, .dict []]).shown) H
section
variable {X : Cx} {e : Expr} {es : List Expr} {fr : dA} {p pos : Pos}
theorem call_reprE (sy : SysOk X.K) (hgd : X.A.guards = some []) (hu : X.A.units + 66 < cLine) : CallR X (.builtin "repr") (spReprE X.K) := by
  intro pins s σ H xs us Q I r h
  rcases h with h | h
  · exact call_reprD hgd hu pins s σ H xs us Q I r h
  · obtain ⟨a, b, w, rfl, ha, hb, hw, hl, q⟩ := h
    obtain ⟨u, rfl, ru⟩ := vals1 r
    have e : u = Value.ref a := ru
    subst e
    obtain ⟨_, its, n, rv, hga⟩ := I.hok a _ ha
    obtain ⟨_, nb, vs, kv, ob, esb, ep, hgb, ex, hdat, _, prs, _⟩ := I.hok b _ hb
    have hvs : vs = [] := by
      have kv : Paired _ [] vs := kv
      cases kv
      rfl
    subst hvs
    have hes : esb.toList = [] := by
      cases q2 : esb.toList with
      | nil => rfl
      | cons x r => rw [q2] at prs; cases prs
    obtain ⟨o1, h1, c1⟩ := sy
    have g1 := I.kIn _ _ h1
    have na : a ≠ sysModules := fun z => by
      rw [z] at hga
      rw [hga] at g1
      cases g1
      exact absurd (show ("list" : String) = "dict" by injection c1) (by decide)
    have nb : b ≠ sysModules := fun z => by simp [z] at nb
    cases rv with
    | cons r1 rr =>
      cases rr with
      | cons r2 rr =>
        cases rr
        obtain ⟨t, rfl⟩ := r1
        cases r2
        have rb : Reads s.heap (.ref b) (.dict []) (b :: ([] : List Addr) ++ []) := Reads.dict hgb ex.1 hdat (by rw [hes]; exact ReadsAll.nil) (by rw [hes]; exact ReadsAll.nil)
        have rd : Reads s.heap (.ref a) (.list [.str w, .dict []]) (a :: ([] ++ ((b :: ([] : List Addr) ++ []) ++ []))) := Reads.list hga rfl rfl (ReadsAll.cons (Reads.str w t) (ReadsAll.cons rb ReadsAll.nil))
        refine repr_of_reads' rd hw (fun _ z => ?_) hgd (by have : (PyData.list [.str w, .dict []]).depth ≤ 60 := by simp [PyData.depth, PyData.depthAll, PyData.depthKv]
                                                            omega) (fun _ _ e => e) (fun h' u tk hk => ?_) hl
        · simp only [List.nil_append, List.append_nil, List.cons_append, List.mem_cons, List.not_mem_nil, or_false] at z
          rcases z with z | z
          · exact na z.symm
          · exact nb z.symm
        · exact ⟨.str _, H, I.kept (h' := h') (t' := tk) hk, ⟨_, rfl⟩, q⟩
theorem fReprE_ok {K : PySem.W.Frag} : BltS K (spReprE K) (oG fReprE) := by
  intro t F H T ds vs k Q wt r q f
  have old : ∀ (ds : List D), RepL K F ds vs → oG fRepr ds (fun d => k d T) → spReprE K vs H Q := fun ds r h => .inl (oRepr_ok wt r (fRepr_ok h) f)
  by_cases hx : ∃ xs, ds = [.lst xs]
  · obtain ⟨xs, rfl⟩ := hx
    have q : (D.shOk (.lst xs) ∨ ReprE xs) ∧ k (.str (D.py (.lst xs)).shown) T := q
    obtain ⟨q1, q2⟩ := q
    rcases q1 with q1 | ⟨w, rfl, hw, hl⟩
    · exact old _ r ⟨q1, q2⟩
    · cases r with
      | cons r rr =>
        cases rr
        obtain ⟨a, ws, rfl, h, r⟩ := rep_lst r
        cases r with
        | cons r1 rr =>
          cases rr with
          | cons r2 rr =>
            cases rr
            cases r1
            cases r2 with
            | dct hb hk hv =>
              rename_i b kvs
              have e : kvs = [] := by simpa using hk
              subst e
              exact .inr ⟨a, b, w, rfl, wt.sub _ _ h, wt.sub _ _ hb, hw, hl, f.val wt (.str _) q2⟩
  · refine old _ r ?_
    have e : fReprE ds = fRepr ds := by
      unfold fReprE
      split
      · exact absurd ⟨_, rfl⟩ hx
      · rfl
    unfold oG at q ⊢
    rw [e] at q
    exact q
end
end L2.G
namespace L2.G
open PySem PySem.Spec PyProof.Rows
theorem cntC_some {P : Prop} {bs : List Bool} : cntR (fun bs => some (cntT bs)) P (some bs) = some (P, .int (cntT bs)) := rfl
def idxI (bs : List Bool) : Option Int := (idxT bs).map Int.ofNat
theorem idxI_t {r : List Bool} : idxI (true :: r) = some 0 := rfl
theorem idxI_f {r : List Bool} : idxI (false :: r) = (idxI r).map (· + 1) := by
  unfold idxI
  rw [idxT_f]
  cases idxT r <;> rfl
def ixR2 (P : Prop) (o : Option Int) : PD := match o with | some i => some (P, .int i) | none => none
theorem ixR2_some {P : Prop} {i : Int} : ixR2 P (some i) = some (P, .int i) := rfl
theorem idxC_some {P : Prop} {bs : List Bool} : cntR (fun bs => (idxT bs).map Int.ofNat) P (some bs) = ixR2 P (idxI bs) := by
  show (match (idxT bs).map Int.ofNat with | some i => some (P, D.int i) | none => none) = ixR2 P ((idxT bs).map Int.ofNat)
  cases (idxT bs).map Int.ofNat <;> rfl
end L2.G

set_option maxHeartbeats 2000000
namespace L2
open PySem PySem.Spec PyProof.Rows
section
variable {X : Cx} {e : Expr} {es : List Expr} {pos cpos apos : Pos} {t : TA} {te : TE}
end
end L2
namespace L2.G
open PySem PySem.Spec PyProof.Rows
def strs? : List D → Option (List Str)
  | [] => some []
  | .str z :: r => (strs? r).map (z :: ·)
  | _ :: _ => none
def idxS (z : Str) : List Str → Option Nat
  | [] => none
  | y :: r => if y = z then some 0 else (idxS z r).map (· + 1)
def idx? (ds : List D) (y : D) : Option Nat := match y with
  | .str z => (match strs? ds with
    | some ys => idxS z ys
    | none => none)
  | _ => none
/-- (..).index(y), a tuple of texts -/
def dTupIx (fr : dA) (fe : dE) : dE := fun ρ T k => fr ρ T fun as T1 => match vals? as with
  | some ds => ds.length ≤ 1000000 ∧ fe ρ T1 fun y T2 => ∃ j : Nat, idx? ds y = some j ∧ k (.int j) T2
  | none => False
section
variable {X : Cx} {e : Expr} {es : List Expr} {fe : dE} {fr : dA} {pos cpos apos : Pos} {c : Ct} {a b : Expr} {fa fb : dE}
end
def tixK (o : Option Nat) (k : D → Prop) (fz : Fz k := ⟨⟩) : Prop := ∃ j : Nat, o = some j ∧ k (.int j)
theorem tixK_go {j : Nat} {k : D → Prop} : tixK (some j) k = k (.int j) := propext ⟨fun ⟨_, e, h⟩ => by cases e; exact h, fun h => ⟨j, rfl, h⟩⟩
theorem h_tupIx {fr : dA} {fe : dE} {ρ : En} {T : Tk} {k : KD} : dTupIx fr fe ρ T k = fr ρ T fun as T1 => sqK (vals? as) fun ds => ds.length ≤ 1000000 ∧ fe ρ T1 fun y T2 => tixK (idx? ds y) fun d => k d T2 := propext Iff.rfl
end L2.G

set_option maxHeartbeats 4000000
namespace L2.G
open PySem PySem.Spec PyProof.Rows L2
section
variable {P : Program} {w : World} {A : Around} {E : Value → Shared → Prop} {s : Shared}
end
/-! sorted(set([..])), ints -/
section
variable {X : Cx}
variable {e : Expr} {fr : dA} {p p2 pos pos2 : Pos}
end
end L2.G

namespace L2.G
open PySem PySem.Spec PyProof.Rows L2
/-! zip of three tuples -/
def zipD3 : List D → List D → List D → List D
  | x :: xs, y :: ys, z :: zs => .tup [x, y, z] :: zipD3 xs ys zs
  | _, _, _ => []
theorem zipD3_cons {x y z : D} {xs ys zs : List D} : zipD3 (x :: xs) (y :: ys) (z :: zs) = .tup [x, y, z] :: zipD3 xs ys zs := rfl
theorem zipD3_nil {ys zs : List D} : zipD3 [] ys zs = [] := by simp [zipD3]
def zip3 : List SV → Option (List D)
  | [.val (.tup xs), .val (.tup ys), .val (.tup zs)] => some (zipD3 xs ys zs)
  | _ => none
theorem zip3_tup {xs ys zs : List D} : zip3 [.val (.tup xs), .val (.tup ys), .val (.tup zs)] = some (zipD3 xs ys zs) := rfl
def iZ3 (fr : dA) : dI := fun ρ T k => fr ρ T fun as T1 => match zip3 as with | some l => l.length ≤ 1000000 ∧ k l T1 | none => False
def zp3K (o : Option (List D)) (T : Tk) (k : List D → Tk → Prop) (fz : Fz k := ⟨⟩) : Prop := match o with | some l => l.length ≤ 1000000 ∧ k l T | none => False
theorem zp3K_go {l : List D} {T : Tk} {k : List D → Tk → Prop} : zp3K (some l) T k = (l.length ≤ 1000000 ∧ k l T) := propext Iff.rfl
theorem h_iZ3 {fr : dA} {ρ : En} {T : Tk} {k : List D → Tk → Prop} : iZ3 fr ρ T k = fr ρ T fun as T1 => zp3K (zip3 as) T1 k := propext Iff.rfl
end L2.G

namespace L2.G
open PySem PySem.Spec PyProof.Rows LamX
/-! a lambda without parameters, handed to a def that calls it -/
/-- what a call of the lambda does -/
abbrev Act := RK → Tk → KD → Prop
/-- act(), act in slot i -/
def dAct (i f c' : Addr) (q : Str) (act : Act) (r : RX) : dE := fun ρ T k => ρ[i]? = some (some (.fn f c' q)) ∧ act (fun e T' => r e ρ T') T k
/-- the call in any def that was entered at s, H with the lambda at f -/
def ActIn (P : Program) (w : World) (K : PySem.W.Frag) (mg : Str → Option Value) (base : Heap) (A : Around) (fs : List Env) (s : Shared) (H : Hp) (t : Option Addr) (F : Hp) (f c' : Addr) (q : Str) (act : Act) : Prop :=
  ∀ (N : List Str) (x : Str) (sc : Scope) (g : Addr) (cdg : Value) (pn : List (Addr × Obj)) (xe : Value → Shared → Prop) (c : Ct) (r : RX) (W : WX) (i : Nat) (a : Str) (p1 p2 : Pos),
    N[i]? = some a → Vis sc a → (a == ("__debug__" : Str)) = false → (a == ("__classdict__" : Str)) = false → c.t = t → c.F0 = F → c.H0 = H →
    Takes ((cxOf CX0 P w K mg base N x sc g cdg A fs s H E0).tr pn xe) W → Lk ((cxOf CX0 P w K mg base N x sc g cdg A fs s H E0).tr pn xe) c r W →
    PEx ((cxOf CX0 P w K mg base N x sc g cdg A fs s H E0).tr pn xe) c (.Call (.Name a p1) [] [] p2) (dAct i f c' q act r)
def OkL (P : Program) (w : World) (K : PySem.W.Frag) (mg : Str → Option Value) (base : Heap) (n : Nat) (x a : Str) (sem : Act → Tk → KD → Prop) : Prop :=
  ∃ g fd, mg x = some (.ref g) ∧ PySem.W.keepIn K (.ref g) = true ∧ Binds K fd [a] [] ∧
    ∀ (A : Around) (fs : List Env) (s : Shared) (H : Hp) (f c' : Addr) (q : Str) (act : Act) (t : Option Addr) (F : Hp) (T : Tk) (k : KD) (Q : VK), Room n A → A.guards = some [] → Env0 P w K mg base A fs s H → BindsTo s fd ⟨[.ref f], []⟩ ([a].zip [.ref f]) →
      Wt K T t F H → H c' = some (CodeO c' q) → ActIn P w K mg base A fs s H t F f c' q act → sem act T k → Fin K t F H k Q → codeAny (model P w) A (.call (.ref g) ⟨[.ref f], []⟩) (CR CX0 fs P w H s Q E0) s
theorem OkL.mono {P : Program} {w : World} {K : PySem.W.Frag} {mg : Str → Option Value} {base : Heap} {m n : Nat} {x a : Str} {sem : Act → Tk → KD → Prop} (h : OkL P w K mg base m x a sem) (l : m ≤ n) : OkL P w K mg base n x a sem :=
  let ⟨g, fd, h1, h2, h3, h4⟩ := h; ⟨g, fd, h1, h2, h3, fun A fs s H f c' q act t F T k Q hr => h4 A fs s H f c' q act t F T k Q (hr.mono l)⟩
section
variable {X : Cx} {pins : List (Addr × Obj)} {σ : L2.St} {H HZ : Hp} {s s1 : Shared}
end

/-! the lambda is made and handed on -/
/-- own lists are out of sight -/
def hidS : Option SV → Option SV | some (.own _) => none | s => s
def hid (ρ : En) : En := ρ.map hidS
theorem hid_nil : hid [] = [] := rfl
theorem hid_c {s : Option SV} {ρ : En} : hid (s :: ρ) = hidS s :: hid ρ := rfl
theorem hidS_val {d : D} : hidS (some (.val d)) = some (.val d) := rfl
theorem hidS_own {xs : List D} : hidS (some (.own xs)) = none := rfl
theorem hidS_tank : hidS (some .tank) = some .tank := rfl
theorem hidS_none : hidS none = none := rfl
theorem hid_get {ρ : En} {i : Nat} {s : SV} (h : (hid ρ)[i]? = some (some s)) : ρ[i]? = some (some s) ∧ ∀ xs, s ≠ .own xs := by
  unfold hid at h
  rw [List.getElem?_map] at h
  obtain ⟨u, h1, h2⟩ := Option.map_eq_some_iff.mp h
  cases u with
  | none => cases h2
  | some v =>
    cases v with
    | own ys => cases h2
    | _ => cases h2; exact ⟨h1, fun _ z => nomatch z⟩
theorem Wd.hid {K : PySem.W.Frag} {ρ : En} {T : Tk} {t : Option Addr} {σ : L2.St} {F H : Hp} (w : Wd K ρ T t σ F H) : Wd K (hid ρ) T t σ F H :=
  ⟨w.wt, by rw [← w.len]; simp [G.hid], fun i s e => w.slot i s (hid_get e).1, fun i j xs ys l e1 _ _ _ => absurd rfl ((hid_get e1).2 xs)⟩
def dLam (sem : Act → Tk → KD → Prop) (b : RX → dE) : dE := fun ρ T k => sem (fun r T' k' => b (fun e _ T'' => r e T'') (hid ρ) T' k') T k
section
variable {X : Cx} {pins : List (Addr × Obj)} {σ : L2.St} {H : Hp} {s : Shared} {ρ : En} {T : Tk} {t : Option Addr} {F : Hp} {f c' : Addr} {scope : Scope} {params : Arguments} {body : Expr} {pm ctv : Value} {k : Nat} {b : RX → dE}
end
section
variable {X : Cx} {pins : List (Addr × Obj)} {σ : L2.St} {H : Hp} {s : Shared} {c P : Addr} {params : Arguments} {body : Expr} {scope : Scope} {pos : Pos} {E Q : Value → Shared → Prop}
/-- making a lambda changes its def's table, and nothing else -/
def Laid (H H1 : Hp) (P c' : Addr) (q : Str) : Prop := H1 = H ∨ ∃ ps ps', H P = some (.tbl ps) ∧ H c' = none ∧ H1 = upd (upd H P (.tbl ps')) c' (CodeO c' q)
theorem Laid.ext {H H1 : Hp} {P c' : Addr} {q : Str} (l : Laid H H1 P c' q) {b : Addr} {o : HO} (e : H b = some o) (n : b ≠ P) : H1 b = some o := by
  rcases l with rfl | ⟨ps, ps', h1, h2, rfl⟩
  · exact e
  · rw [upd_ne (ne_of_none e h2), upd_ne n, e]
theorem Laid.there {H H1 : Hp} {P c' : Addr} {q : Str} (l : Laid H H1 P c' q) {b : Addr} {o : HO} (e : H b = some o) : ∃ o', H1 b = some o' := by
  by_cases n : b = P
  · rcases l with rfl | ⟨ps, ps', h1, h2, rfl⟩
    · exact ⟨o, e⟩
    · subst n
      exact ⟨_, by rw [upd_ne (ne_of_none e h2), upd_same]⟩
  · exact ⟨o, l.ext e n⟩
theorem Laid.wt {K : PySem.W.Frag} {T : Tk} {t : Option Addr} {F H H1 : Hp} {P c' : Addr} {q : Str} (l : Laid H H1 P c' q) (w : Wt K T t F H) (hp : (P, q) ∈ tabsOf K) (hu : ∀ p ∈ tabsOf K, p.1 = P → p.2 = q) (ht : TabS H1 P q) : Wt K T t F H1 := by
  have fP : F P = none := w.tabs.none _ hp
  obtain ⟨psP, atP, _⟩ := w.tabs.tab _ hp
  refine ⟨fun a u e => l.ext (w.sub a u e) (fun z => by rw [z, fP] at e; cases e), fun a e => ?_, w.tabs.none, fun p q1 => ?_, w.tabs.no, fun b ps e => ?_⟩
  · obtain ⟨h1, vs, h2, h3⟩ := w.tank a e
    exact ⟨h1, vs, l.ext h2 (fun z => by have a1 : H P = _ := atP; rw [z, a1] at h2; cases h2), h3⟩
  · by_cases z : p.1 = P
    · rw [z, hu p q1 z]; exact ht
    · obtain ⟨ps, k1, k2, k3⟩ := w.tabs.tab p q1
      refine ⟨ps, l.ext k1 z, k2, fun pos cv hc => ?_⟩
      obtain ⟨c0, e1, e2⟩ := k3 pos cv hc
      exact ⟨c0, e1, l.ext e2 (fun z => by have a1 : H P = _ := atP; rw [z, a1] at e2; unfold CodeO at e2; cases e2)⟩
  · rcases l with rfl | ⟨ps0, ps', h1, h2, rfl⟩
    · exact w.tabs.only b ps e
    · by_cases n1 : b = c'
      · rw [n1, upd_same] at e; unfold CodeO at e; cases e
      · by_cases n2 : b = P
        · rw [n2]; exact ⟨_, hp⟩
        · rw [upd_ne n1, upd_ne n2] at e; exact w.tabs.only b ps e
theorem Laid.grow {K : PySem.W.Frag} {T : Tk} {t : Option Addr} {F H H1 : Hp} {P c' : Addr} {q : Str} (l : Laid H H1 P c' q) (w : Wt K T t F H) (hp : (P, q) ∈ tabsOf K) : Grow t F H F H1 := by
  obtain ⟨psP, atP, _⟩ := w.tabs.tab _ hp
  exact ⟨Same.refl _, fun a u e _ n => l.ext e (fun z => by have a1 : H P = _ := atP; rw [z, a1] at e; cases e; exact n _ rfl), fun _ _ _ n => n, fun a u e => l.there e⟩
end
section
variable {X : Cx} {n k : Nat} {x a : Str} {sem : Act → Tk → KD → Prop} {params : Arguments} {body : Expr} {scope : Scope} {lpos p pos : Pos} {b : RX → dE}
end

/-! try, in a def whose entry is known -/
section
variable {X : Cx} {x n : Str} {cv : Value} {i : Nat} {body suite : List Stmt} {b₀ : Stmt} {np pos pos' : Pos} {b : RX → dS} {s : ExD → Addr → Option Addr → dS} {so : dS} {mt : Str → Option Bool} {c0 : Ct}
end
section
variable {X : Cx} {c : Ct} {es : List Expr} {fr : dA} {pos : Pos}
end

/-! calls by name of defs that may raise -/
section
variable {X : Cx} {CX : CXT} {n : Nat} {f : Addr} {fd : FuncData} {ps ks : List Str} {sp : Sp} {x : Str} {p pos : Pos} {kws : List Keyword} {tk : TA}
end
section
variable {X : Cx} {n : Nat} {x : Str} {ps ks : List Str} {sem : SemX} {p pos : Pos} {kws : List Keyword} {fr : dA} {st : Stmt} {is : List Nat} {c : Ct} {r : RX} {W : WX}
def dCallXP (n : Nat) (is : List Nat) (sem : SemX) (r : RX) (fr : dA) : dE := fun ρ T k => fr ρ T fun as T1 => as.length = n ∧ (permL is as).length = n ∧ sem (fun e T => r e ρ T) (permL is as) T1 k
end
/-! the walker -/
def lamK (sem : Act → Tk → KD → Prop) (b : RX → dE) (ρ : En) (T : Tk) (k : KD) (fz : Fz (b, k) := ⟨⟩) : Prop := sem (fun r T' k' => b (fun e _ T'' => r e T'') (hid ρ) T' k') T k
theorem lamK_in {sem : Act → Tk → KD → Prop} {b : RX → dE} {ρ : En} {T : Tk} {k : KD} (h : sem (fun r T' k' => b (fun e _ T'' => r e T'') (hid ρ) T' k') T k) : lamK sem b ρ T k := h
theorem h_lam {sem : Act → Tk → KD → Prop} {b : RX → dE} {ρ : En} {T : Tk} {k : KD} : dLam sem b ρ T k = lamK sem b ρ T k := propext Iff.rfl
theorem h_callXP {n : Nat} {is : List Nat} {se : SemX} {r : RX} {fr : dA} {ρ : En} {T : Tk} {k : KD} : dCallXP n is se r fr ρ T k = fr ρ T fun as T1 => callP n is (se (fun e T => r e ρ T)) as T1 k := propext Iff.rfl
end L2.G

set_option maxHeartbeats 2000000
/-! tuples whose object is known as it lies: x = tuple(list), x.index(number) -/
namespace L2
open PySem PySem.Spec PyProof.Rows
section
variable {X : Cx}
end
end L2
namespace L2.G
open PySem PySem.Spec PyProof.Rows
/-- x = tuple(e), e a list; x is then known as it lies -/
def sTupP (i : Nat) (fe : dE) : dS := fun k ρ T => fe ρ T fun d T1 => match d with | .lst xs => k.nx (ρ.set i (some (.ptup xs))) T1 | _ => False
def numL? : List D → Option (List Int)
  | [] => some []
  | .int z :: r => (numL? r).map (z :: ·)
  | _ :: _ => none
def idxN (z : Int) : List Int → Option Nat
  | [] => none
  | y :: r => if y = z then some 0 else (idxN z r).map (· + 1)
def idxD? (ds : List D) (y : D) : Option Nat := match y with
  | .int z => (match numL? ds with
    | some ys => idxN z ys
    | none => none)
  | _ => none
/-- x.index(e), x such a tuple -/
def dPix (i : Nat) (fe : dE) : dE := fun ρ T k => match ρ[i]? with
  | some (some (.ptup ds)) => fe ρ T fun y T1 => ∃ j : Nat, idxD? ds y = some j ∧ k (.int j) T1
  | _ => False
section
variable {X : Cx} {e : Expr} {fe : dE} {p p2 pos cpos apos : Pos} {x : Str}
end
/-! the walker -/
def tuPK (d : D) (k : List D → Prop) (fz : Fz k := ⟨⟩) : Prop := match d with | .lst xs => k xs | _ => False
theorem tuPK_go {xs : List D} {k : List D → Prop} : tuPK (.lst xs) k = k xs := propext Iff.rfl
theorem h_tupP {i : Nat} {fe : dE} {K : dEnds} {ρ : En} {T : Tk} : sTupP i fe K ρ T = fe ρ T fun d T1 => tuPK d fun xs => setE (ρ.set i (some (.ptup xs))) fun ρ => K.nx ρ T1 := propext Iff.rfl
def pixK (s : Option (Option SV)) (F : List D → Prop) (fz : Fz F := ⟨⟩) : Prop := match s with | some (some (.ptup ds)) => F ds | _ => False
theorem pixK_go {ds : List D} {F : List D → Prop} : pixK (some (some (.ptup ds))) F = F ds := propext Iff.rfl
theorem h_pix {i : Nat} {fe : dE} {ρ : En} {T : Tk} {k : KD} : dPix i fe ρ T k = pixK ρ[i]? fun ds => fe ρ T fun y T1 => tixK (idxD? ds y) fun d => k d T1 := propext Iff.rfl
theorem hidS_ptup {xs : List D} : hidS (some (.ptup xs)) = some (.ptup xs) := rfl
end L2.G

namespace L2.G
open PySem PySem.Spec PyProof.Rows
/-! a dict of the module whose keys are tuples of ints and whose values are ints: TABLE.get(x) -/
def lkT (kvs : List (List Int × Int)) (k : List Int) : Option Int := (kvs.find? fun c => decide (c.1 = k)).map (·.2)
def getT (o : Option Int) : D := match o with | some i => .int i | none => .non
/-- what .get of the table gives -/
def getK (kvs : List (List Int × Int)) (o : Option (List Int)) (k : D → Prop) : Prop := match o with | some ns => k (getT (lkT kvs ns)) | none => False
def tupN (d : D) : Option (List Int) := match d with | .tup xs => nums? xs | _ => none
def dGetT (kvs : List (List Int × Int)) (fe : dE) : dE := fun ρ T k => fe ρ T fun d T1 => getK kvs (tupN d) fun r => k r T1
section
variable {X : Cx} {e : Expr} {fe : dE} {p apos cpos : Pos} {x : Str} {kvs : List (List Int × Int)}
end
theorem h_getT {kvs : List (List Int × Int)} {fe : dE} {ρ : En} {T : Tk} {k : KD} : dGetT kvs fe ρ T k = fe ρ T fun d T1 => getK kvs (tupN d) fun r => k r T1 := propext Iff.rfl
theorem tupN_tup {xs : List D} : tupN (.tup xs) = nums? xs := rfl
theorem getK_some {kvs : List (List Int × Int)} {ns : List Int} {k : D → Prop} : getK kvs (some ns) k = k (getT (lkT kvs ns)) := propext Iff.rfl
end L2.G

set_option maxHeartbeats 2000000
/-! (..).index(x), tuples of ints among tuples of ints; x, y = (..), None -/
namespace L2
open PySem PySem.Spec PyProof.Rows
section
variable {X : Cx}
end
end L2
namespace L2.G
open PySem PySem.Spec PyProof.Rows
/-- x, y = (..), None; x is then known as it lies -/
def sUnpP (i j : Nat) (fr : dA) : dS := fun k ρ T => fr ρ T fun as T1 => match vals? as with
  | some ds => ds.length ≤ 1000000 ∧ k.nx ((ρ.set i (some (.ptup ds))).set j (some (.val .non))) T1
  | none => False
section
variable {X : Cx} {e : Expr} {es : List Expr} {fe : dE} {fr : dA} {p pos cpos apos : Pos} {x y : Str}
def idxTT (z : List Int) : List (List Int) → Option Nat
  | [] => none
  | y :: r => if y = z then some 0 else (idxTT z r).map (· + 1)
/-- (some of tuples of ints).index(a tuple of ints) -/
def idxTT? (ds : List D) (y : D) : Option Nat := match tups? ds, tupN y with
  | some nss, some z => idxTT z nss
  | _, _ => none
/-- x.index(e), x known as it lies -/
def dPixT (i : Nat) (fe : dE) : dE := fun ρ T k => match ρ[i]? with
  | some (some (.ptup ds)) => fe ρ T fun y T1 => ∃ j : Nat, idxTT? ds y = some j ∧ k (.int j) T1
  | _ => False
end
theorem h_unpP {i j : Nat} {fr : dA} {K : dEnds} {ρ : En} {T : Tk} : sUnpP i j fr K ρ T = fr ρ T fun as T1 => sqK (vals? as) fun ds => ds.length ≤ 1000000 ∧ setE ((ρ.set i (some (.ptup ds))).set j (some (.val .non))) fun ρ => K.nx ρ T1 := propext Iff.rfl
theorem h_pixT {i : Nat} {fe : dE} {ρ : En} {T : Tk} {k : KD} : dPixT i fe ρ T k = pixK ρ[i]? fun ds => fe ρ T fun y T1 => tixK (idxTT? ds y) fun d => k d T1 := propext Iff.rfl
end L2.G

set_option maxHeartbeats 2000000
/-! xs[::k] of tuples, k a number above 1 that is written -/
namespace L2
open PySem PySem.Spec PyProof.Rows
/-- every k-th -/
def stp {α : Type} (k : Nat) (xs : List α) : List α := (List.range ((xs.length + (k - 1)) / k)).filterMap fun i => xs[i * k]?
section
variable {prog : Program} {w : World} {A : Around} {E : Value → Shared → Prop} {s : Shared}
end
theorem Vals.pick {xs : List V} {us : List Value} (r : Vals xs us) (g : Nat → Nat) : ∀ is : List Nat, Vals (is.filterMap fun i => xs[g i]?) (is.filterMap fun i => us[g i]?)
  | [] => .nil
  | i :: is => by
    have ih := Vals.pick r g is
    rw [List.filterMap_cons, List.filterMap_cons]
    cases h : xs[g i]? with
    | none => rw [r.none_of h]; exact ih
    | some x =>
      obtain ⟨u, hu, hr⟩ := r.get h
      rw [hu]
      exact .cons hr ih
theorem Vals.stp {k : Nat} {xs : List V} {us : List Value} (r : Vals xs us) : Vals (L2.stp k xs) (L2.stp k us) := by
  unfold L2.stp
  rw [← r.length]
  exact Vals.pick r (fun i => i * k) _
namespace G
section
variable {X : Cx} {e : Expr} {fe : dE}
theorem RepL.pick {K : PySem.W.Frag} {F : Hp} {ds : List D} {vs : List V} (r : RepL K F ds vs) (g : Nat → Nat) : ∀ is : List Nat, RepL K F (is.filterMap fun i => ds[g i]?) (is.filterMap fun i => vs[g i]?)
  | [] => .nil
  | i :: is => by
    have ih := RepL.pick r g is
    rw [List.filterMap_cons, List.filterMap_cons]
    cases h : ds[g i]? with
    | none =>
      cases h2 : vs[g i]? with
      | none => exact ih
      | some v =>
        obtain ⟨d, hd, _⟩ := RepL.getV r h2
        rw [h] at hd
        cases hd
    | some d =>
      obtain ⟨v, hv, hr⟩ := RepL.get r h
      rw [hv]
      exact .cons hr ih
def D.stp? (k : Nat) : D → Option D | .tup xs => some (.tup (L2.stp k xs)) | _ => none
theorem stp_tup {k : Nat} {xs : List D} : D.stp? k (.tup xs) = some (.tup (L2.stp k xs)) := rfl
def dStp (k : Nat) (fe : dE) : dE := fun ρ T q => fe ρ T fun x T1 => match D.stp? k x with | some d => q d T1 | none => False
theorem h_stp {k : Nat} {ρ : En} {T : Tk} {q : KD} : dStp k fe ρ T q = fe ρ T fun x T1 => opK (D.stp? k x) fun d => q d T1 := propext Iff.rfl
end
theorem stp3_4 {a b c d : D} : L2.stp 3 [a, b, c, d] = [a, d] := by
  unfold L2.stp
  rw [show ([a, b, c, d].length + (3 - 1)) / 3 = 2 by simp, show List.range 2 = [0, 1] from rfl]
  rfl
end G
end L2

set_option maxHeartbeats 4000000
/-! set of a tuple of tuples of ints -/
namespace L2
open PySem PySem.Spec PyProof.Rows
section
variable {P : Program} {w : World} {A : Around} {E : Value → Shared → Prop} {s : Shared}
def nwS (w : World) : Obj := { cls := .type "set", dict := none, data := .set #[] 0 (.fresh 0 0 (!w.params.followText "set-order")) }
/-- what the set holds in the end -/
def SetDone (P : Program) (w : World) (s : Shared) (ks : List (Addr × List Int)) (s2 : Shared) : Prop := ∃ h' tk L es ep t, s2 = { s with heap := h', toks := tk } ∧ SetTR P w h' s.heap.objs.size L es ep t ∧ Got ks ks.length L ∧ ∀ b o, s.heap.get? b = some o → h'.get? b = some o
theorem nwS_at : (s.heap.push (nwS w)).get? s.heap.objs.size = some (nwS w) := Heap.get?_push_size _ rfl
theorem call_setT {l : Addr} {items : Array Value} (ks : List (Addr × List Int)) {Q : Value → Shared → Prop} (hh : A.handled = none) (hl : s.heap.IsTuple l items) (hit : items.toList = ks.map fun p => Value.ref p.1)
    (hk : ∀ p ∈ ks, IsT P w s.heap p.2 p.1) (hfew : ks.length < 64) (hu : A.units + 3 < cLine) (h : ∀ s2, SetDone P w s ks s2 → Q (.ref s.heap.objs.size) s2) :
    wpAny (model P w) A (call (.type "set") [.ref l]) Q E s := by
  have hn : items.size = ks.length := by
    have q := congrArg List.length hit
    rwa [Array.length_toList, List.length_map] at q
  obtain ⟨c, tl, hmro⟩ := F.called_set.mro
  have h0 := F.called_set.made
  have h1 := F.called_set.notType
  have h2 := F.called_set.canCreate
  have h3 := F.called_set.sub
  have h4 := F.typeCall_set_1 (.ref l)
  refine wpAny_call (codeAny_of_tree ?_)
  show wpAny _ _ (callAny (.type "set") _) _ _ _
  refine wpAny_pure ⟨Code.quiet_builtin _ (by decide +kernel), codeAny_builtin F.entry_type_call ?_⟩
  rw [Around.under_plain (weight_type_call_type "set" [.ref l] []) rfl]
  repeat (any_goals (first | assumption | wp_step))
  refine codeAny_mono (code_set_led1 (.ref l) (E := E) (Q₁ := fun v s1 => v = .ref s.heap.objs.size ∧ s1 = { s with heap := s.heap.push (nwS w) }) ⟨rfl, rfl⟩) fun r s1 hr => ?_
  match r, hr with
  | .error e, hr => exact hr
  | .ok (.ret v), hr =>
    obtain ⟨rfl, rfl⟩ := hr
    have hS := nwS_at (w := w) (s := s)
    have hT : Shared.TypeIs { s with heap := s.heap.push (nwS w) } (.ref s.heap.objs.size) "set" := ⟨_, hS, rfl⟩
    have i1 := F.called_set.init.lookup
    have i2 := F.called_set.init.bind (.ref s.heap.objs.size)
    repeat (any_goals (first | assumption | wp_step))
    refine codeAny_mono (codeAny_call_builtin (R := wants (fun r s2 => r = .none ∧ SetDone P w s ks s2) E) F.called_set.init.plain F.entry_set_init (check_set_init_1 hT ?_)) fun r2 s2 hr2 => ?_
    · have hl1 : (s.heap.push (nwS w)).IsTuple l items := hl.push _
      obtain ⟨ol, hol, hcl, nl, hdl⟩ := id hl
      obtain ⟨ocls, odict, odata, oslots⟩ := ol
      simp only at hcl hdl
      subst hcl
      subst hdl
      have hol' : (s.heap.push (nwS w)).get? l = some { cls := .type "tuple", dict := odict, data := .seq items nl, slots := oslots } := Heap.get?_push_of_some _ hol
      have hsls := F.sub_tuple_set
      have hslf := F.sub_tuple_frozenset
      have hne : (Value.type "tuple" == Value.type "dict") = false := by decide
      unfold Builtin.«set.__init__» noKeywords Builtin.Frozenset.updateFrom
      generalize hPI : pyIter = PI
      wp_walk
      subst hPI
      refine wpAny_pyIter_tuple hl1 ?_
      refine wpAny_bind (wpAny_runValue ?_)
      have lS : l < s.heap.objs.size := Heap.lt_size hol
      have z1 : (s.heap.push (nwS w)).objs.size = s.heap.objs.size + 1 := Heap.size_push ..
      have gone : ∀ b, s.heap.objs.size ≤ b → s.heap.get? b = none := fun b hb => by
        cases q : s.heap.get? b with
        | none => rfl
        | some o => exact absurd (Heap.lt_size q) (Nat.not_lt.mpr hb)
      have h3' : A.in1.in1.in1.handled = none := by simp [hh]
      have nI : l ≠ (s.heap.push (nwS w)).objs.size := by rw [z1]; exact Nat.ne_of_lt (Nat.lt_succ_of_lt lS)
      have nS : s.heap.objs.size ∉ [(s.heap.push (nwS w)).objs.size, l] := by
        rw [z1]
        simp only [List.mem_cons, List.not_mem_nil, or_false, not_or]
        exact ⟨Nat.ne_of_lt (Nat.lt_succ_self _), Nat.ne_of_gt lS⟩
      have val : ∀ (i : Nat) (v : Value), items[i]? = some v → ∃ p, ks[i]? = some p ∧ v = .ref p.1 := fun i v hv => by
        have q : items.toList[i]? = some v := by rw [Array.getElem?_toList]; exact hv
        rw [hit, List.getElem?_map] at q
        cases e : ks[i]? with
        | none => rw [e] at q; cases q
        | some p =>
          rw [e] at q
          exact ⟨p, rfl, (Option.some.inj q).symm⟩
      refine set_update_tups ((Walks.tuple h3' _ l nI items).toS) s.heap.objs.size nS ks hn hfew val s.heap hk (gone _ (Nat.le_refl _)) (fun b hb => gone b (by rw [List.mem_singleton.mp hb, z1]; omega)) hu (items.size - 0) 0 _ (by omega) (Nat.zero_le _)
        ⟨⟨_, Heap.get?_push_size _ rfl, rfl, rfl⟩, hl1.push _⟩ (fun b o e => Heap.get?_push_of_some _ (Heap.get?_push_of_some _ e)) ⟨[], #[], 0, _, setTR_fresh (Heap.get?_push_of_some _ hS), Got.zero ks⟩ fun s' L es ep t hm hS' g' kp => ?_
      obtain ⟨h', g2, d', tk', os'⟩ := s'
      have e1 : g2 = s.gens := hm.gens
      have e2 : d' = s.drawn := hm.drawn
      have e3 : os' = s.os := hm.os
      subst e1 e2 e3
      show wpAny _ _ _ _ _ _
      refine wpAny_pure ?_
      show wpAny _ _ (ret Value.none) _ _ _
      rw [hn] at g'
      exact wpAny_pure ⟨rfl, h', tk', L, es, ep, t, rfl, hS', g', kp⟩
    · match r2, hr2 with
      | .error e, hr2 => exact hr2
      | .ok (.ret v), hr2 =>
        obtain ⟨rfl, q⟩ := hr2
        repeat (any_goals (first | assumption | wp_step))
        exact h _ q
  | .ok (.next), hr => exact hr.elim
end
end L2

set_option maxHeartbeats 2000000
/-! len(set(t)), t a tuple of tuples of ints that are all unlike -/
namespace L2
open PySem PySem.Spec PyProof.Rows
theorem isTup_of {h : Heap} {l : Addr} {its : Array Value} (q : IsTup h l its) : h.IsTuple l its := q
namespace G
/-- a tuple of tuples of ints, all unlike, fewer than 64 -/
def LenS : D → Prop
  | .tup ds => ∃ nss, tups? ds = some nss ∧ nss.Nodup ∧ nss.length < 64
  | _ => False
def lenD : D → Int
  | .tup ds => ds.length
  | _ => 0
def dLenSet (fe : dE) : dE := fun ρ T k => fe ρ T fun x T1 => LenS x ∧ k (.int (lenD x)) T1
theorem h_lenSet {fe : dE} {ρ : En} {T : Tk} {k : KD} : dLenSet fe ρ T k = fe ρ T fun x T1 => LenS x ∧ k (.int (lenD x)) T1 := propext Iff.rfl
end G
end L2

set_option maxHeartbeats 2000000
/-! min(t, u) of two tuples of ints -/
namespace L2
open PySem PySem.Spec PyProof.Rows
section
variable {prog : Program} {w : World} {A : Around} {R : Result → Shared → Prop} {I : Addr} {fp wr : List Addr} {n : Nat} {P : Nat → Value → Prop} {St : Nat → Heap → Prop} {h0 : Heap}
end
section
variable {prog : Program} {w : World} {A : Around} {E : Value → Shared → Prop} {s : Shared}
end
namespace G
def mnT (xs ys : List D) : Option (List Int) → Option (List Int) → PD
  | some a, some b => some (True, if HT.lexLt b a = true then .tup ys else .tup xs)
  | _, _ => none
def fMinT : List D → PD
  | [.tup xs, .tup ys] => mnT xs ys (nums? xs) (nums? ys)
  | _ => none
theorem fMinT_tup {xs ys : List D} : fMinT [.tup xs, .tup ys] = mnT xs ys (nums? xs) (nums? ys) := rfl
theorem mnT_some {xs ys : List D} {a b : List Int} : mnT xs ys (some a) (some b) = some (True, if HT.lexLt b a = true then .tup ys else .tup xs) := rfl
end G
end L2

set_option maxHeartbeats 2000000
namespace L2.G
open PySem PySem.Spec PyProof.Rows
/-! a pair of patterns as the target of a comprehension -/
def cPair (ca cb : dC1) : dC1 := fun d ρ => match d with | .tup [x, y] => (ca x ρ).bind (cb y) | _ => none
def cpB (o : Option En) (f : En → Option En) : Option En := o.bind f
theorem h_cP {ca cb : dC1} {x y : D} {ρ : En} : cPair ca cb (.tup [x, y]) ρ = cpB (ca x ρ) (cb y) := rfl
theorem cpB_some {ρ : En} {f : En → Option En} : cpB (some ρ) f = f ρ := rfl

/-! expressions whose result may be a list of one's own -/
abbrev dSV := En → Tk → (SV → Tk → Prop) → Prop
/-- what a result stands for: a value, or a new list that nobody else has -/
def VRel (K : PySem.W.Frag) (t : Option Addr) (H F' H' : Hp) (s : SV) (v : V) : Prop := match s with
  | .val d => Rep K F' d v
  | .own ys => ∃ l vs, v = .ref l ∧ H l = none ∧ F' l = none ∧ H' l = some (.lst vs) ∧ RepL K F' ys vs ∧ t ≠ some l
  | _ => False
def FinV (K : PySem.W.Frag) (t : Option Addr) (F H : Hp) (k : SV → Tk → Prop) (Q : VK) : Prop := ∀ v H' F' s T', Wt K T' t F' H' → Grow t F H F' H' → VRel K t H F' H' s v → k s T' → Q v H'
theorem gone_of {t : Option Addr} {F H F1 H1 : Hp} (g : Grow t F H F1 H1) {l : Addr} (h : H1 l = none) : H l = none := by
  cases q : H l with
  | none => rfl
  | some o => obtain ⟨o', h'⟩ := g.there l o q; rw [h] at h'; cases h'
def vVal (fe : dE) : dSV := fun ρ T k => fe ρ T fun d T1 => k (.val d) T1
def vLst (fr : dA) : dSV := fun ρ T k => fr ρ T fun as T1 => match vals? as with | some ds => ds.length ≤ 1000000 ∧ k (.own ds) T1 | none => False
def vLc (vs : List Nat) (fi : dI) (c : dC1) (tt : dT) (el : dE) : dSV := fun ρ T k => fi ρ T fun xs T1 => lcD (wipeD ρ vs) c tt el (fun acc T2 => k (.own acc) T2) xs [] T1
theorem h_vVal {fe : dE} {ρ : En} {T : Tk} {k : SV → Tk → Prop} : vVal fe ρ T k = fe ρ T fun d T1 => k (.val d) T1 := propext Iff.rfl
theorem h_vLst {fr : dA} {ρ : En} {T : Tk} {k : SV → Tk → Prop} : vLst fr ρ T k = fr ρ T fun as T1 => sqK (vals? as) fun ds => ds.length ≤ 1000000 ∧ k (.own ds) T1 := propext Iff.rfl
theorem h_vLc {vs : List Nat} {fi : dI} {c : dC1} {tt : dT} {el : dE} {ρ : En} {T : Tk} {k : SV → Tk → Prop} : vLc vs fi c tt el ρ T k = fi ρ T fun xs T1 => setE (wipeD ρ vs) fun ρ' => lcK ρ' c tt el (fun acc T2 => k (.own acc) T2) xs [] T1 := propext Iff.rfl
section
variable {X : Cx} {e a b : Expr} {es : List Expr} {fe : dE} {fr : dA} {fs fa fb : dSV} {pos : Pos}
theorem FinV.then {K : PySem.W.Frag} {t : Option Addr} {F H F1 H1 : Hp} {k : SV → Tk → Prop} {Q : VK} (f : FinV K t F H k Q) (g : Grow t F H F1 H1) : FinV K t F1 H1 k Q := fun v H' F' s T' w1 g1 r h => by
  refine f v H' F' s T' w1 (g.trans g1) ?_ h
  cases s with
  | val d => exact r
  | own ys =>
    obtain ⟨l, vs, e, h1, rest⟩ := r
    exact ⟨l, vs, e, gone_of g h1, rest⟩
  | _ => exact r.elim
/-- x = e -/
def sSetV (i : Nat) (fs : dSV) : dS := fun k ρ T => fs ρ T fun s T1 => k.nx (ρ.set i (some s)) T1
/-- x, y = a, b -/
def sPar2V (i j : Nat) (fa fb : dSV) : dS := fun k ρ T => fa ρ T fun s T1 => fb ρ T1 fun u T2 => k.nx ((ρ.set i (some s)).set j (some u)) T2
/-- x, y, z = a, b, c -/
def sPar3V (i j l : Nat) (fa fb fc : dSV) : dS := fun k ρ T => fa ρ T fun s T1 => fb ρ T1 fun u T2 => fc ρ T2 fun v T3 => k.nx (((ρ.set i (some s)).set j (some u)).set l (some v)) T3
/-- x.insert(e, d) -/
def sIns (i : Nat) (fi fe : dE) : dS := fun k ρ T => match ρ[i]? with | some (some (.own xs)) => fi ρ T fun n T1 => fe ρ T1 fun d T2 => intK n fun j => xs.length < 1000000 ∧ 0 ≤ j ∧ j < 1000000 ∧ k.nx (ρ.set i (some (.own (xs.take j.toNat ++ [d] ++ xs.drop j.toNat)))) T2 | _ => False
end
theorem h_ins {i : Nat} {fi fe : dE} {K : dEnds} {ρ : En} {T : Tk} : sIns i fi fe K ρ T = ownK ρ[i]? (fun xs => fi ρ T fun n T1 => fe ρ T1 fun d T2 => intK n fun j => xs.length < 1000000 ∧ 0 ≤ j ∧ j < 1000000 ∧ setE (ρ.set i (some (.own (xs.take j.toNat ++ [d] ++ xs.drop j.toNat)))) fun ρ => K.nx ρ T2) False := propext Iff.rfl
theorem h_setV {i : Nat} {fs : dSV} {K : dEnds} {ρ : En} {T : Tk} : sSetV i fs K ρ T = fs ρ T fun s T1 => setE (ρ.set i (some s)) fun ρ => K.nx ρ T1 := propext Iff.rfl
theorem h_par2V {i j : Nat} {fa fb : dSV} {K : dEnds} {ρ : En} {T : Tk} : sPar2V i j fa fb K ρ T = fa ρ T fun s T1 => fb ρ T1 fun u T2 => setE ((ρ.set i (some s)).set j (some u)) fun ρ => K.nx ρ T2 := propext Iff.rfl
theorem h_par3V {i j l : Nat} {fa fb fc : dSV} {K : dEnds} {ρ : En} {T : Tk} : sPar3V i j l fa fb fc K ρ T = fa ρ T fun s T1 => fb ρ T1 fun u T2 => fc ρ T2 fun v T3 => setE (((ρ.set i (some s)).set j (some u)).set l (some v)) fun ρ => K.nx ρ T3 := propext Iff.rfl
end L2.G

set_option maxHeartbeats 2000000
namespace L2.G
open PySem PySem.Spec PyProof.Rows
/-! x += e, of ints -/
def augK (s : Option (Option SV)) (f : Int → Prop) (fz : Fz f := ⟨⟩) : Prop := match s with | some (some (.val (.int a))) => f a | _ => False
theorem augK_int {a : Int} {f : Int → Prop} : augK (some (some (.val (.int a)))) f = f a := propext Iff.rfl
def sAug (i : Nat) (fe : dE) : dS := fun k ρ T => augK ρ[i]? fun a => fe ρ T fun d T1 => intK d fun b => k.nx (ρ.set i (some (.val (.int (a + b))))) T1
theorem h_aug {i : Nat} {fe : dE} {K : dEnds} {ρ : En} {T : Tk} : sAug i fe K ρ T = augK ρ[i]? fun a => fe ρ T fun d T1 => intK d fun b => setE (ρ.set i (some (.val (.int (a + b))))) fun ρ => K.nx ρ T1 := propext Iff.rfl
end L2.G

set_option maxHeartbeats 2000000
/-! set(t) == {e}: t a tuple of tuples of ints, e one such -/
namespace L2
open PySem PySem.Spec PyProof.Rows
section
variable {P : Program} {w : World} {A : Around} {E : Value → Shared → Prop} {s : Shared}
variable {a : Addr} {es : Array (Int × Value)} {ep : Nat} {t : SetTable} {z x : Addr} {kz k : List Int}
theorem one_ix (R : SetTR P w s.heap a [(z, kz)] es ep t) {i j : Nat} (h : t.place.toList[i]? = some j) : i = 0 := by
  have h1 : i < t.place.toList.length := (List.getElem?_eq_some_iff.mp h).1
  have h2 := R.tab.sz
  rw [List.length_map] at h2
  rw [Array.length_toList] at h1
  have : ([(z, kz)] : List (Addr × List Int)).length = 1 := rfl
  omega
theorem rest_one (R : SetTR P w s.heap a [(z, kz)] es ep t) (hx : IsT P w s.heap k x) (hu : A.units < cLine) {i j f : Nat} {h : Int} {nx : SetTable.Probe} (hj : t.place.toList[i]? = some j) {Q : SetFound → Shared → Prop}
    (h1 : kz = k → Q (.there (some i)) s) (h2 : kz ≠ k → wpAny (model P w) A (setSearchFrom a (.ref x) h false f (some nx)) Q E s) : wpAny (model P w) A (searchRest a (.ref x) h false f es t j i nx) Q E s := by
  obtain ⟨o, ho, hex, hd⟩ := R.ob
  obtain rfl := one_ix R hj
  have he : es[0]? = some (thash P w kz, Value.ref z) := R.entry (i := 0) (p := (z, kz)) rfl
  have hp : IsT P w s.heap kz z := R.tup (z, kz) List.mem_cons_self
  unfold searchRest
  rw [he]
  dsimp only
  refine wpAny_bind (wpAny_holding (wpAny_eqBool_tuple hu hp hx ?_))
  refine wpAny_bind (wpAny_setState_of ho hd R.fits ?_)
  dsimp only
  refine wp_if_neg (by simp) ?_
  try refine wpAny_bind (wpAny_pure ?_)
  rw [sameMem]
  dsimp only
  have hsl : t.slot j = .live 0 := slot_live R.tab.ris hj
  simp only [if_true, hsl, he]
  refine wpAny_bind (wpAny_isSame_ref_self (wpAny_bind (wpAny_pure ?_)))
  simp only [if_true]
  by_cases hk : kz = k
  · refine wp_if_pos (by simp [hk]) ?_
    exact wpAny_pure (h1 hk)
  · refine wp_if_neg (by simp [hk]) ?_
    exact h2 hk
theorem find_one (R : SetTR P w s.heap a [(z, kz)] es ep t) (hx : IsT P w s.heap k x) (hu : A.units < cLine) {K : Nat} (hKf : K < 10 * SetTable.turns t.mask)
    (hK : way t.mask (thash P w k) K ∉ t.place.toList) (hKb : ∀ c, c < K → way t.mask (thash P w k) c ∈ t.place.toList) {Q : SetFound → Shared → Prop}
    (h1 : ∀ i, kz = k → Q (.there (some i)) s) (h2 : ∀ j, kz ≠ k → Q (.free j false) s) :
    ∀ (f c : Nat) (stand : Option SetTable.Probe), stand.getD (t.probeStart (thash P w k)) = nth t.mask (runAt t.mask (SetTable.bits (thash P w k) % (t.mask + 1)) (SetTable.bits (thash P w k))) c → c ≤ K → K - c < f → (kz = k → c = 0) →
      wpAny (model P w) A (setSearchFrom a (.ref x) (thash P w k) false f stand) Q E s := by
  intro f
  obtain ⟨o, ho, hex, hd⟩ := R.ob
  induction f with
  | zero => intro c _ _ _ h _; exact absurd h (Nat.not_lt_zero _)
  | succ f ih =>
    intro c stand hst hc hf h0
    rw [setSearchFrom_succ]
    refine wpAny_bind (wpAny_setState_of ho hd R.fits ?_)
    dsimp only
    refine wp_if_neg R.gw ?_
    try refine wpAny_bind (wpAny_pure ?_)
    have hnd : ∀ (n : Nat) (p : SetTable.Probe), p.dummy = none → (nth t.mask p n).dummy = none := by
      intro n
      induction n with
      | zero => intro p h; exact h
      | succ n ih =>
        intro p h
        refine ih (adv t.mask p) ?_
        unfold adv
        split <;> exact h
    have sh : ∀ q, (nth t.mask (nth t.mask (runAt t.mask (SetTable.bits (thash P w k) % (t.mask + 1)) (SetTable.bits (thash P w k))) c) q) = nth t.mask (runAt t.mask (SetTable.bits (thash P w k) % (t.mask + 1)) (SetTable.bits (thash P w k))) (c + q) := fun q => (nth_add t.mask c _ q).symm
    have spec := go_spec t R.tab.ris R.tab.dm (fun i => (es[i]?.map (·.1)).getD 0) (thash P w k) (10 * SetTable.turns t.mask) (K - c) (nth t.mask (runAt t.mask (SetTable.bits (thash P w k) % (t.mask + 1)) (SetTable.bits (thash P w k))) c) (hnd c _ rfl) (by omega)
      (fun q hq => by rw [sh]; exact hKb (c + q) (by omega)) (by rw [sh, show c + (K - c) = K by omega]; exact hK)
    rw [← hst] at spec
    rcases spec with ⟨q, i, hq, hi, hh, hno, hpr⟩ | ⟨hno, hpr⟩
    · rw [show t.probe (fun i => (es[i]?.map (·.1)).getD 0) (thash P w k) (stand.getD (t.probeStart (thash P w k))) = _ from hpr]
      dsimp only
      have rest := rest_one (f := f) (h := thash P w k) (nx := nth t.mask (stand.getD (t.probeStart (thash P w k))) (q + 1)) (Q := Q) R hx hu hi (h1 i) fun hk => ih (c + (q + 1)) _ (by rw [hst, Option.getD_some, sh]) (by omega) (by omega) fun e => absurd e hk
      by_cases hl : t.led = true
      · refine wp_if_neg (by simp [hl]) ?_
        try refine wpAny_bind (wpAny_pure ?_)
        exact rest
      · refine wp_if_pos (by simp [hl]) ?_
        refine wpAny_bind (seen_tup hx (fun y hy => ?_) ?_)
        · obtain ⟨e, he, ee⟩ := List.mem_map.mp hy
          have he1 : e ∈ es ∧ e.1 = thash P w k := by simpa using he
          have he2 : e ∈ es.toList := by simpa using he1.1
          rw [R.rows] at he2
          obtain ⟨p2, hp2, e2⟩ := List.mem_map.mp he2
          refine ⟨p2.2, p2.1, ?_, R.tup p2 hp2⟩
          rw [← ee, ← e2]
        · refine wp_if_neg (by decide) ?_
          try refine wpAny_bind (wpAny_pure ?_)
          exact rest
    · rw [show t.probe (fun i => (es[i]?.map (·.1)).getD 0) (thash P w k) (stand.getD (t.probeStart (thash P w k))) = _ from hpr]
      dsimp only
      refine wpAny_pure (h2 _ fun hk => ?_)
      have hc0 := h0 hk
      subst hc0
      have hil : 0 < t.place.toList.length := by
        have h2 := R.tab.sz
        rw [List.length_map] at h2
        rw [Array.length_toList, h2]
        exact Nat.zero_lt_one
      have hj := List.getElem?_eq_getElem hil
      obtain ⟨c', hc', e⟩ := R.tab.before (h := thash P w k) (i := 0) hK (by rw [List.getElem?_map]; show some (thash P w kz) = _; rw [hk]) hj
      refine hno c' 0 (by omega) (by rw [hst, sh, Nat.zero_add, hj, ← e]) ?_
      show (es[0]?.map (·.1)).getD 0 = _
      rw [R.entry (i := 0) (p := (z, kz)) rfl, ← hk]
      rfl
theorem setFind_one (R : SetTR P w s.heap a [(z, kz)] es ep t) (hx : IsT P w s.heap k x) (hu : A.units < cLine) {Q : Option Nat → Shared → Prop} (h1 : ∀ i, kz = k → Q (some i) s) (h2 : kz ≠ k → Q none s) :
    wpAny (model P w) A (setFind a (.ref x) (thash P w k)) Q E s := by
  obtain ⟨o, ho, hex, hd⟩ := R.ob
  have hroom := R.room
  obtain ⟨K, hKf, hK, hKb⟩ := R.tab.first (by rw [List.length_map]; omega) (thash P w k)
  have hbig : K < 100000 := by
    have : 10 * SetTable.turns t.mask ≤ 1420 := by
      unfold SetTable.turns
      rcases R.tab.mok with e | e | e <;> omega
    omega
  unfold setFind
  rw [show (100000 : Nat) = 99999 + 1 from rfl]
  unfold setFindIn
  refine wpAny_bind (wpAny_setState_of ho hd R.fits ?_)
  dsimp only
  refine wp_if_neg (by simp [byScan, Value.scannable]) ?_
  try refine wpAny_bind (wpAny_pure ?_)
  unfold setSearch
  refine wpAny_bind (find_one R hx hu hKf hK hKb (fun i e => ?_) (fun j e => ?_) 100000 0 none rfl (Nat.zero_le _) (by omega) fun _ => rfl)
  · exact wpAny_pure (h1 i e)
  · exact wpAny_pure (h2 e)
end
section
variable {P : Program} {w : World} {A : Around} {E : Value → Shared → Prop} {s : Shared}
variable {a b : Addr} {es es2 : Array (Int × Value)} {ep ep2 : Nat} {t t2 : SetTable} {z x : Addr} {kz k : List Int} {L : List (Addr × List Int)}
theorem entry_set_eq : entryFor table "set.__eq__" = some Builtin.«frozenset.__eq__» :=
  entryFor_alias (id' := "frozenset.__eq__") (by kernel_rfl) rfl (by decide +kernel) (by kernel_rfl)
theorem pick_one {α : Type} (nx : Nat → Nat) (e : α) : pickOrder nx #[e] = #[e] := by
  show pickOrder.go nx 1 0 [e] #[] = _
  unfold pickOrder.go
  simp [Nat.mod_one, pickOrder.go]
theorem walk_one {e : Int × Value} {o : Obj} (ho : s.heap.get? a = some o) (hd : o.data = .set #[e] ep t) (hf : t.fits (#[e] : Array (Int × Value)).size = true) {Q : List (Int × Value) → Shared → Prop} (h : Q [e] s) : wpAny (model P w) A (Builtin.Frozenset.walk a) Q E s := by
  unfold Builtin.Frozenset.walk setWalk setsByText
  refine wpAny_bind (wpAny_bind (wpAny_setState_of ho hd hf ?_))
  dsimp only
  refine wpAny_bind (wpAny_bind (wpAny_askSetting (wpAny_pure ?_)))
  by_cases c : (⟨P, w.params⟩ : Setting).params.followText "set-order" = true
  · refine wp_if_pos c ?_
    refine wpAny_bind (wpAny_askSetting (wpAny_pure ?_))
    rw [pick_one]
    exact wpAny_pure h
  · refine wp_if_neg c ?_
    try refine wpAny_bind (wpAny_pure ?_)
    refine wp_if_neg (by show ¬ ((!t.plain && decide ((1 : Nat) > 1)) = true); simp) ?_
    try refine wpAny_bind (wpAny_pure ?_)
    refine wpAny_bind ?_
    show wpAny _ _ (if (!t.led && decide ((1 : Nat) > 1)) = true then _ else _) _ _ _
    refine wp_if_neg (by simp) ?_
    refine wpAny_pure ?_
    exact wpAny_pure (wpAny_pure h)
theorem subset_one (R1 : SetTR P w s.heap a [(x, k)] es ep t) (R2 : SetTR P w s.heap b [(z, kz)] es2 ep2 t2) (hu : A.units < cLine) {Q : Bool → Shared → Prop} (h : Q (decide (kz = k)) s) :
    wpAny (model P w) A (Builtin.Frozenset.subsetOf "frozenset.__eq__" a b) Q E s := by
  obtain ⟨o, ho, hex, hd⟩ := R1.ob
  obtain ⟨o2, ho2, hex2, hd2⟩ := R2.ob
  have hx : IsT P w s.heap k x := R1.tup (x, k) List.mem_cons_self
  have hT : s.TypeIs (.ref x) "tuple" := hx.typeIs
  have z1 : es.size = 1 := R1.size
  have z2 : es2.size = 1 := R2.size
  have he : es = #[(thash P w k, Value.ref x)] := by
    have := R1.rows
    rw [← Array.toArray_toList (xs := es), this]
    rfl
  unfold Builtin.Frozenset.subsetOf Builtin.Frozenset.sizeOf
  refine wpAny_bind (wpAny_bind (wpAny_setEntries_of ho hd R1.fits (wpAny_pure ?_)))
  refine wpAny_bind (wpAny_bind (wpAny_setEntries_of ho2 hd2 R2.fits (wpAny_pure ?_)))
  rw [z1, z2]
  refine wp_if_neg (by decide) ?_
  try refine wpAny_bind (wpAny_pure ?_)
  unfold setEpoch
  refine wpAny_bind (wpAny_bind (wpAny_setState_of ho hd R1.fits (wpAny_pure ?_)))
  unfold Builtin.Frozenset.walkUnseen
  refine wpAny_bind (wpAny_bind (wpAny_setEntries_of ho hd R1.fits ?_))
  refine wpAny_bind (wpAny_setEntries_of ho2 hd2 R2.fits ?_)
  subst he
  show wpAny _ _ (forIn ((thash P w k, Value.ref x) :: es2.toList) _ _ >>= _) _ _ _
  rw [List.forIn_cons]
  unfold Builtin.Frozenset.quietEq
  have hne : ((some (Value.builtin "tuple.__eq__") : Option Value) == some (.builtin "object.__eq__")) = false := by decide +kernel
  refine wpAny_bind (wpAny_bind (wpAny_bind (wpAny_bind (wpAny_specialOf hT F.slot_tuple_eq.lookup (wpAny_pure ?_)))))
  rw [hne]
  refine wp_if_pos (by decide) ?_
  refine wpAny_bind (walk_one ho hd R1.fits ?_)
  refine wpAny_pure ?_
  dsimp only
  refine wpAny_pure ?_
  dsimp only
  refine wpAny_pure ?_
  refine wpAny_bind ?_
  rw [List.forIn_cons]
  dsimp only
  refine wpAny_bind (wpAny_bind (wpAny_holding (setFind_one R2 hx hu (fun i e => ?_) fun e => ?_)))
  · refine wp_if_neg (by simp) ?_
    unfold Builtin.Frozenset.unchanged setEpoch
    refine wpAny_bind (wpAny_bind (wpAny_bind (wpAny_setState_of ho hd R1.fits (wpAny_pure ?_))))
    refine wp_if_neg (by simp) ?_
    refine wpAny_pure (wpAny_pure ?_)
    dsimp only
    rw [List.forIn_nil]
    refine wpAny_pure ?_
    dsimp only
    refine wpAny_pure ?_
    rw [decide_eq_true e] at h
    exact h
  · refine wp_if_pos (by simp) ?_
    refine wpAny_pure ?_
    dsimp only
    refine wpAny_pure ?_
    dsimp only
    refine wpAny_pure ?_
    rw [decide_eq_false e] at h
    exact h
theorem eqs_body (R1 : SetTR P w s.heap a L es ep t) (R2 : SetTR P w s.heap b [(z, kz)] es2 ep2 t2) (hu : A.units < cLine) {Q : Value → Shared → Prop} (h : Q (.bool (decide (L.map (·.2) = [kz]))) s) :
    wpAny (model P w) A (Builtin.«frozenset.__eq__» ⟨[.ref a, .ref b], []⟩) (fun fin s' => ∃ v, fin = .done (.ret v) ∧ Q v s') E s := by
  obtain ⟨o, ho, hex, hd⟩ := R1.ob
  obtain ⟨o2, ho2, hex2, hd2⟩ := R2.ob
  have hT1 : s.TypeIs (.ref a) "set" := ⟨o, ho, hex.1⟩
  have hT2 : s.TypeIs (.ref b) "set" := ⟨o2, ho2, hex2.1⟩
  have z1 : es.size = L.length := R1.size
  have z2 : es2.size = 1 := R2.size
  unfold Builtin.«frozenset.__eq__»
  wp_delta
  unfold Builtin.Frozenset.slot1 slotArgs
  simp only [List.isEmpty_nil, Bool.not_true, Bool.false_eq_true, ↓reduceIte, bind_assoc, List.length_cons, List.length_nil, bne_self_eq_false]
  refine wpAny_bind (wpAny_pure ?_)
  dsimp only
  refine wpAny_bind (wpAny_pure ?_)
  dsimp only
  refine wpAny_bind (m := Builtin.Frozenset.isAnySet (.ref b)) ?_
  unfold Builtin.Frozenset.isAnySet orM
  refine wpAny_bind (wpAny_isInstance hT2 F.sub_set_set ?_)
  show wpAny _ _ (pure true) _ _ _
  refine wpAny_pure ?_
  refine wp_if_neg (by decide) ?_
  try refine wpAny_bind (wpAny_pure ?_)
  unfold Builtin.Frozenset.addrOf Builtin.Frozenset.sizeOf
  refine wpAny_bind (wpAny_pure ?_)
  refine wpAny_bind (wpAny_bind (wpAny_setEntries_of ho hd R1.fits (wpAny_pure ?_)))
  refine wpAny_bind (wpAny_bind (wpAny_setEntries_of ho2 hd2 R2.fits (wpAny_pure ?_)))
  by_cases hl : L.length = 1
  · match L, hl, R1, z1, h with
    | [(x, k)], _, R1, z1, h =>
    refine wpAny_bind ?_
    refine wp_if_neg (by rw [z1, z2]; simp) ?_
    try refine wpAny_bind (wpAny_pure ?_)
    unfold andM
    refine wpAny_bind (wpAny_bind (wpAny_isInstance hT1 F.sub_set_frozenset ?_))
    show wpAny _ _ (pure false) _ _ _
    refine wpAny_pure ?_
    refine wp_if_neg (by decide) ?_
    try refine wpAny_bind (wpAny_pure ?_)
    refine subset_one R1 R2 hu ?_
    refine wpAny_pure ⟨_, rfl, ?_⟩
    have e : decide (List.map (fun x => x.snd) [(x, k)] = [kz]) = decide (kz = k) := by
      by_cases e : kz = k
      · rw [decide_eq_true e, e]; simp
      · rw [decide_eq_false e]; simp [Ne.symm e]
    rw [e] at h
    exact h
  · refine wpAny_bind ?_
    refine wp_if_pos (by rw [z1, z2]; simp [hl]) ?_
    refine wpAny_pure ?_
    refine wpAny_pure ⟨_, rfl, ?_⟩
    have e : decide (List.map (fun x => x.snd) L = [kz]) = false := decide_eq_false fun e => hl (by have := congrArg List.length e; rw [List.length_map] at this; exact this)
    rw [e] at h
    exact h
/-- the comparison -/
theorem eqs_cmp (R1 : SetTR P w s.heap a L es ep t) (R2 : SetTR P w s.heap b [(z, kz)] es2 ep2 t2) (hu : A.units + 1 < cLine) {Q : Value → Shared → Prop} (h : Q (.bool (decide (L.map (·.2) = [kz]))) s) :
    wpAny (model P w) A (compareOp .Eq (.ref a) (.ref b)) Q E s := by
  obtain ⟨o, ho, hex, hd⟩ := R1.ob
  obtain ⟨o2, ho2, hex2, hd2⟩ := R2.ob
  have hT1 : s.TypeIs (.ref a) "set" := ⟨o, ho, hex.1⟩
  have hT2 : s.TypeIs (.ref b) "set" := ⟨o2, ho2, hex2.1⟩
  exact wpAny_richCompare_same_room (op := .Eq) hT1 hT2 F.slot_set_eq (wpAny_call_entry F.slot_set_eq hT1 entry_set_eq (eqs_body (A := A.in1) (Q := fun v s' => v ≠ .notImplemented ∧ Q v s') R1 R2 (by simpa using hu) ⟨(fun e => nomatch e), h⟩) (F.args_set_eq_2 _ _)) (by omega)
/-- a new set -/
theorem newS_run {Q : Value → Shared → Prop} (h : Q (.ref s.heap.objs.size) { s with heap := s.heap.push (nwS w) }) : wpAny (model P w) A (newSet (.type "set")) Q E s := by
  unfold newSet setsByText
  refine wpAny_bind (wpAny_bind (wpAny_askSetting (wpAny_pure ?_)))
  dsimp only
  simp only [newObj]
  exact wpAny_bind (wpAny_alloc (wpAny_pure h))
theorem disp_one {e : Expr} {K : PySem.W.Frag} {env : Env} {pos : Pos} (X : K.In s.heap) (hcd : PySem.W.kdsCode K env.code = true) (hp : PySem.W.kdsPlain e = true) {Q : Value → Shared → Prop}
    (h : wpAny (model P w) A (eval e env) (fun v s1 => wpAny (model P w) A (setAdd s.heap.objs.size v) (fun _ s2 => Q (.ref s.heap.objs.size) s2) E s1) E { s with heap := s.heap.push (nwS w) }) :
    wpAny (model P w) A (eval (.Set [e] 0 pos) env) Q E s := by
  rw [arm_eval_Set]
  refine wpAny_bind (wpAny_standAt ?_)
  refine wpAny_bind (PySem.W.kds_main X hcd fun b => ?_)
  rw [PySem.W.kds_star [e] (by simp [hp]), List.map_map]
  have hev : evalEach [e] env = [eval e env] := by rw [arm_evalEach_cons]; rfl
  rw [hev]
  show wpAny _ _ (setDisplay .oneByOne b [(false, eval e env >>= fun v => standAt pos >>= fun _ => pure v)]) _ _ _
  unfold setDisplay
  refine wp_if_neg (by decide) ?_
  try refine wpAny_bind (wpAny_pure ?_)
  refine wpAny_bind (newS_run ?_)
  dsimp only
  refine wpAny_bind (wpAny_holding ?_)
  refine wpAny_bind (m := evalAll [(eval e env >>= fun v => standAt pos >>= fun _ => pure v)]) ?_
  unfold evalAll
  refine wpAny_bind (wpAny_bind (wpAny_mono h (fun v s1 h1 => ?_) fun _ _ x => x))
  refine wpAny_bind (wpAny_standAt (wpAny_pure ?_))
  unfold evalAll
  refine wpAny_bind (wpAny_holding (wpAny_pure ?_))
  refine wpAny_pure ?_
  refine wpAny_bind (wpAny_holding ?_)
  refine wpAny_bind ?_
  rw [List.forIn_cons]
  refine wpAny_bind (wpAny_bind (wpAny_mono h1 (fun _ s2 h2 => ?_) fun _ _ x => x))
  try refine wpAny_bind (wpAny_pure ?_)
  refine wpAny_pure ?_
  dsimp only
  rw [List.forIn_nil]
  refine wpAny_pure ?_
  refine wp_if_neg (by decide) ?_
  refine wpAny_pure ?_
  show wpAny _ _ (forIn ([] : List (Bool × Sem Value)) PUnit.unit _ >>= _) _ _ _
  rw [List.forIn_nil]
  exact wpAny_bind (wpAny_pure (wpAny_pure (wpAny_pure h2)))
theorem keys_one {ks L : List (Addr × List Int)} (g : Got ks ks.length L) (nd : (L.map (·.2)).Nodup) : decide (L.map (·.2) = [kz]) = decide (ks ≠ [] ∧ ∀ p ∈ ks, p.2 = kz) := by
  refine decide_eq_decide.mpr ⟨fun e => ⟨fun h => ?_, fun p hp => ?_⟩, fun ⟨h1, h2⟩ => ?_⟩
  · subst h
    have hl := g.len
    have := congrArg List.length e
    rw [List.length_map] at this
    simp at hl this
    rw [hl] at this
    simp at this
  · have := g.all p (by rw [List.take_length]; exact hp)
    rw [e] at this
    exact List.mem_singleton.mp this
  · have al : ∀ x ∈ L.map (·.2), x = kz := fun x hx => by
      obtain ⟨p, hp, rfl⟩ := List.mem_map.mp hx
      have := g.sub p hp
      rw [List.take_length] at this
      exact h2 p this
    have ne : L.map (·.2) ≠ [] := fun e => by
      cases ks with
      | nil => exact h1 rfl
      | cons p ks =>
        have := g.all p (by rw [List.take_length]; exact List.mem_cons_self)
        rw [e] at this
        cases this
    generalize L.map (·.2) = M at *
    match M, nd, al, ne with
    | [], _, _, ne => exact absurd rfl ne
    | [x], _, al, _ => rw [al x List.mem_cons_self]
    | x :: y :: M, nd, al, _ =>
      have e1 := al x List.mem_cons_self
      have e2 := al y (List.mem_cons_of_mem _ List.mem_cons_self)
      rw [List.nodup_cons] at nd
      exact absurd (by rw [e1, e2]; exact List.mem_cons_self) nd.1
end
def tSetEqT (K : PySem.W.Frag) (ta tz : TE) : TE := fun σ H Q => ta σ H fun x H1 => ∃ (l : Addr) (ks : List (Addr × List Int)), x = V.ref l ∧ SqT K H1 l (ks.map fun p => V.ref p.1) ∧ (∀ p ∈ ks, SqT K H1 p.1 (p.2.map V.int)) ∧ ks.length < 64 ∧
  tz σ H1 fun y H2 => ∃ (z : Addr) (k : List Int), y = V.ref z ∧ SqT K H2 z (k.map V.int) ∧ (∀ p ∈ ks, SqT K H2 p.1 (p.2.map V.int)) ∧ Q (.bl (decide (ks ≠ [] ∧ ∀ p ∈ ks, p.2 = k))) H2
theorem pc_setEqT {X : Cx} {a e : Expr} {ta tz : TE} {p2 q p1 : Pos} (hc : X.calm = true) (hu : X.A.units + 66 < cLine) (hg2 : Gl X "set") (hm2 : X.mg "set" = none) (ha : PE X a ta) (hz : PE X e tz) (hp : PySem.W.kdsPlain e = true) (hcd : PySem.W.kdsCode X.K X.env.code = true)
    (na : starEach [a] X.env = (false, eval a X.env) :: starEach [] X.env := by rfl) : PC X .Eq (.Call (.Name "set" p2) [a] [] q) (.Set [e] 0 p1) (tSetEqT X.K ta tz) := by
  refine ⟨fun pins s σ H Q I h => ?_⟩
  refine Call_ (ld_blt I hg2 hm2 PyProof.Rows.boot_set ?_)
  refine PyProof.Rows.callWith_type1 (PyProof.Rows.args_cons (thn (ha.run pins s σ H _ I h) fun v s1 ⟨x, H1, I1, r1, q1⟩ => PyProof.Rows.args_nil ?_) na) na rfl
  obtain ⟨l, ks, rfl, hq, hk, hf, q1⟩ := q1
  cases r1
  obtain ⟨its, rv, ht, hzz⟩ := I1.tuple hq
  refine call_setT (P := X.prog) (w := X.w) ks (I1.ok.hd hc) (isTup_of ht) (by simpa using refs_of_vals rv) (fun p hp => I1.isT (hk p hp)) hf (by omega) fun s2 hd => ?_
  obtain ⟨h', tk, L, es, ep, t, rfl, R, g, kp⟩ := hd
  have I2 : Inv X pins σ H1 { s1 with heap := h', toks := tk } := I1.kept fun b o e => kp b o e
  obtain ⟨o, ho, hex, hdd⟩ := R.ob
  have lt1 : s1.heap.objs.size < h'.objs.size := Heap.lt_size ho
  refine disp_one (s := { s1 with heap := h', toks := tk }) I2.kIn hcd hp ?_
  have ho3 : (h'.push (nwS X.w)).get? s1.heap.objs.size = some o := Heap.get?_push_of_some _ ho
  have hn3 : (h'.push (nwS X.w)).get? h'.objs.size = some (nwS X.w) := Heap.get?_push_size _ rfl
  have I3 : Inv X pins σ H1 { s1 with heap := h'.push (nwS X.w), toks := tk } := I2.kept fun b o e => Heap.get?_push_of_some _ e
  have I4 : Inv X ((s1.heap.objs.size, o) :: (h'.objs.size, nwS X.w) :: pins) σ H1 { s1 with heap := h'.push (nwS X.w), toks := tk } := I3.pins_of fun p hp => by
    rcases List.mem_cons.mp hp with rfl | hp
    · exact ⟨ho3, I1.hok.fresh (Nat.le_refl _), fun e => Nat.lt_irrefl _ (e ▸ I1.lt), I1.nofs (Nat.le_refl _), fun v e => by rw [hdd] at e; cases e⟩
    rcases List.mem_cons.mp hp with rfl | hp
    · exact ⟨hn3, I2.hok.fresh (Nat.le_refl _), fun e => Nat.lt_irrefl _ (e ▸ I2.lt), I2.nofs (Nat.le_refl _), fun v e => by cases e⟩
    · exact I3.pin p (List.mem_append_right _ hp)
  refine thn (hz.run _ _ σ H1 _ I4 q1) fun u s3 ⟨y, H2, I5, r2, q2⟩ => ?_
  obtain ⟨z, k, rfl, hq2, hk2, q2⟩ := q2
  cases r2
  have o1 := (I5.pin _ (List.mem_append_right _ List.mem_cons_self)).1
  have o2 := (I5.pin _ (List.mem_append_right _ (List.mem_cons_of_mem _ List.mem_cons_self))).1
  have I6 : Inv X pins σ H2 s3 := I5.pins_of fun p hp => I5.pin p (List.mem_append_right _ (List.mem_cons_of_mem _ (List.mem_cons_of_mem _ hp)))
  have hx : IsT X.prog X.w s3.heap k z := I6.isT hq2
  have sub : ∀ p ∈ L, p ∈ ks := fun p hp => by have := g.sub p hp; rw [List.take_length] at this; exact this
  have R1 : SetTR X.prog X.w s3.heap s1.heap.objs.size L es ep t := R.keep (fun o' e => by rw [ho] at e; cases e; exact o1) fun p hp => I6.isT (hk2 p (sub p hp))
  have R2 : SetTR X.prog X.w s3.heap h'.objs.size [] #[] 0 _ := setTR_fresh o2
  unfold setAdd
  refine wpAny_holding (wpAny_bind (wpAny_pyHash_tuple (by omega) hx ?_))
  refine add_at (s := { s3 with toks := s3.toks + (k.length + 1) }) R2 hx (by omega) (by decide) fun b h4 L' es' ep' t' hsb hS2 c1 c2 => ?_
  have hL' : L' = [(z, k)] := List.perm_singleton.mp (c2 (by simp))
  subst hL'
  have ne : s1.heap.objs.size ≠ h'.objs.size := Nat.ne_of_lt lt1
  have pn := (I5.pin _ (List.mem_append_right _ (List.mem_cons_of_mem _ List.mem_cons_self))).2
  have I7 : Inv X pins σ H2 { s3 with heap := h4, toks := s3.toks + (k.length + 1) } := by
    refine I6.turned (it := h'.objs.size) (fun b o' hb e => (hsb.2 b hb).trans e) pn.1 pn.2.1 (.inr I2.sz) (fun x c e => ?_) fun p hp => ?_
    · obtain ⟨v, o', hc, _⟩ := I2.cell x c e
      exact Nat.ne_of_lt (Heap.lt_size hc)
    · exact Nat.ne_of_lt (Heap.lt_size (I2.pin p hp).1)
  have R3 : SetTR X.prog X.w h4 s1.heap.objs.size L es ep t := R1.keep (fun o' e => by rw [hsb.2 _ ne]; exact e) fun p hp => I7.isT (hk2 p (sub p hp))
  refine eqs_cmp (s := { s3 with heap := h4, toks := s3.toks + (k.length + 1) }) R3 hS2 (by omega) ?_
  rw [keys_one g R.nd]
  exact ⟨.bl _, H2, I7, rfl, q2⟩
namespace G
/-- a tuple of tuples of ints, fewer than 64 -/
def SetE : D → Prop
  | .tup ds => ∃ nss, tups? ds = some nss ∧ nss.length < 64
  | _ => False
def OneT : D → Prop
  | .tup ds => ∃ ns, nums? ds = some ns
  | _ => False
def setEq2 : Option (List (List Int)) → Option (List Int) → Bool
  | some nss, some ns => decide (nss ≠ [] ∧ ∀ m ∈ nss, m = ns)
  | _, _ => false
theorem CdAt.kds {K : PySem.W.Frag} {mg : Str → Option Value} {x : Str} {f : Addr} {cdv : Value} (h : CdAt K mg x f cdv) : PySem.W.kdsCode K cdv = true := let ⟨_, _, _, _, _, _, _, e⟩ := h; e
def setEqD : D → D → Bool
  | .tup ds, .tup es => setEq2 (tups? ds) (nums? es)
  | _, _ => false
def dSetEq (fe fz : dE) : dT := fun ρ T k => fe ρ T fun x T1 => SetE x ∧ fz ρ T1 fun y T2 => OneT y ∧ k (setEqD x y) T2
theorem h_setEq {fe fz : dE} {ρ : En} {T : Tk} {k : Bool → Tk → Prop} : dSetEq fe fz ρ T k = fe ρ T fun x T1 => SetE x ∧ fz ρ T1 fun y T2 => OneT y ∧ k (setEqD x y) T2 := propext Iff.rfl
theorem d_setEq {X : Cx} {a e : Expr} {fe fz : dE} {p2 q p1 pos : Pos} (hc : X.calm = true) (hu : X.A.units + 66 < cLine) (hm2 : X.mg "set" = none) (hcd : PySem.W.kdsCode X.K X.env.code = true) (ha : PEd X a fe) (hz : PEd X e fz) (hg2 : Gl X "set" := by rfl) (hp : PySem.W.kdsPlain e = true := by rfl)
    (na : starEach [a] X.env = (false, eval a X.env) :: starEach [] X.env := by rfl) : PTd X (.Compare (.Call (.Name "set" p2) [a] [] q) [.Eq] [.Set [e] 0 p1] pos) (dSetEq fe fz) := by
  refine pt_imp (pt_cmp (pc_setEqT hc hu hg2 hm2 ha hz hp hcd na)) fun σ H Q h => ?_
  obtain ⟨ρ, T, t, F, k, w, h, f⟩ := h
  refine ⟨ρ, T, t, F, _, w, h, fun v H1 F1 x T1 w1 g1 r1 h1 => ?_⟩
  obtain ⟨hl, hk⟩ := h1
  match x, hl, hk, r1 with
  | .tup ds, hl, hk, r1 =>
    obtain ⟨nss, hn, lt⟩ := hl
    obtain ⟨b, ws, rfl, hb, hr⟩ := rep_tup r1
    obtain ⟨L, rfl, eL, hL⟩ := tups_rep hr hn
    refine ⟨b, L, rfl, same_t w1.sub hb, fun y hy => same_t w1.sub (hL y hy), by rw [eL, List.length_map] at lt; exact lt, ?_⟩
    refine ⟨ρ, T1, t, F1, _, w.grow g1 w1, hk, fun v2 H2 F2 y T2 w2 g2 r2 h2 => ?_⟩
    obtain ⟨ho, h2⟩ := h2
    match y, ho, h2, r2 with
    | .tup es, ho, h2, r2 =>
      obtain ⟨ns, hns⟩ := ho
      obtain ⟨c, us, rfl, hc2, hr2⟩ := rep_tup r2
      have eu := nums_rep hr2 hns
      subst eu
      refine ⟨c, ns, rfl, same_t w2.sub hc2, fun p hp => same_t w2.sub (same_t g2.sub (hL p hp)), _, rfl, ?_⟩
      refine f _ _ _ _ w2 (g1.trans g2) ?_
      have : setEqD (.tup ds) (.tup es) = decide (L ≠ [] ∧ ∀ p ∈ L, p.2 = ns) := by
        show setEq2 (tups? ds) (nums? es) = _
        rw [hn, hns, eL]
        exact decide_eq_decide.mpr ⟨fun ⟨h1, h2⟩ => ⟨fun e => h1 (by rw [e]; rfl), fun p hp => h2 _ (List.mem_map.mpr ⟨p, hp, rfl⟩)⟩, fun ⟨h1, h2⟩ => ⟨fun e => h1 (List.map_eq_nil_iff.mp e), fun m hm => by
          obtain ⟨p, hp, rfl⟩ := List.mem_map.mp hm
          exact h2 p hp⟩⟩
      rw [this] at h2
      exact h2
/-- a op1 b op2 c, ints -/
def dChn (g g' : Int → Int → Bool) (fa fb fc : dE) : dT := fun ρ T k => fa ρ T fun x T1 => fb ρ T1 fun y T2 => intK x fun i => intK y fun j => if g i j = true then fc ρ T2 fun z T3 => intK z fun l => k (g' j l) T3 else k false T2
theorem h_chn {g g' : Int → Int → Bool} {fa fb fc : dE} {ρ : En} {T : Tk} {k : Bool → Tk → Prop} : dChn g g' fa fb fc ρ T k = fa ρ T fun x T1 => fb ρ T1 fun y T2 => intK x fun i => intK y fun j => andK (g i j) T2 (fun k' => wr (fc ρ T2 fun z T3 => intK z fun l => k' (g' j l) T3)) k := propext Iff.rfl
theorem intK_of {x : D} {p : Int → Prop} (h : intK x p) : ∃ i, x = .int i ∧ p i := by
  cases x <;> first | exact ⟨_, rfl, h⟩ | exact h.elim
theorem d_chn {X : Cx} {op op' : CmpOp} {g g' : Int → Int → Bool} {a b c : Expr} {fa fb fc : dE} {pos : Pos} (ho : OpR X (compareOp op) (rI0 fun i j => .bl (g i j))) (ho' : OpR X (compareOp op') (rI0 fun i j => .bl (g' i j))) (ha : PEd X a fa) (hb : PEd X b fb) (hc : PEd X c fc)
    (hm : lastMarks [op, op'] [b, c] = false := by with_unfolding_all rfl) : PTd X (.Compare a [op, op'] [b, c] pos) (dChn g g' fa fb fc) := by
  refine pt_imp (pt_chain ho ho' ha hb hc hm) fun σ H Q h => ?_
  obtain ⟨ρ, T, t, F, k, w, h, f⟩ := h
  refine ⟨ρ, T, t, F, _, w, h, fun v H1 F1 x T1 w1 g1 r1 h1 => ?_⟩
  refine ⟨ρ, T1, t, F1, _, w.grow g1 w1, h1, fun u H2 F2 y T2 w2 g2 r2 h2 => ?_⟩
  obtain ⟨i, rfl, h3⟩ := intK_of (x := x) h2
  obtain ⟨j, rfl, h4⟩ := intK_of (x := y) h3
  clear h2 h3
  have h2 := h4
  cases r1
  cases r2
  refine ⟨i, j, rfl, rfl, g i j, rfl, ?_⟩
  by_cases e : g i j = true
  · rw [if_pos e] at h2 ⊢
    refine ⟨ρ, T2, t, F2, _, w.grow (g1.trans g2) w2, h2, fun v3 H3 F3 z T3 w3 g3 r3 h3 => ?_⟩
    obtain ⟨l, rfl, h3⟩ := intK_of h3
    cases r3
    exact ⟨j, l, rfl, rfl, _, rfl, f _ _ _ _ w3 ((g1.trans g2).trans g3) h3⟩
  · rw [if_neg e] at h2 ⊢
    exact ⟨_, rfl, f _ _ _ _ w2 (g1.trans g2) h2⟩
end G
end L2

set_option maxHeartbeats 2000000
/-! repr of lists of things in which empty dicts may stand; != [] of a list of things of any kind -/
namespace L2.G
open PySem PySem.Spec PyProof.Rows
mutual
def D.liteE : D → Prop
  | .non => True | .bl _ => True | .int i => i.natAbs < 2 ^ 1900 | .str x => PyData.strOk x = true ∧ PyData.strOk (reprText x) = true ∧ (x.cps.toList.all fun c => decide (c < 16 ^ 8)) = true | .tup xs => D.liteEL xs | .lst xs => D.liteEL xs | .obj _ _ _ => False | .ref _ => False | .scr _ => False | .dct ks ds => ks = [] ∧ ds = []
def D.liteEL : List D → Prop
  | [] => True | x :: r => x.liteE ∧ D.liteEL r
end
mutual
theorem lite_E : ∀ {d : D}, d.lite → d.liteE
  | .non, _ => by simp only [D.liteE]
  | .bl _, _ => by simp only [D.liteE]
  | .int _, h => by simp only [D.liteE]; simpa only [D.lite] using h
  | .str _, h => by simp only [D.liteE]; simpa only [D.lite] using h
  | .tup xs, h => by have := lite_EL (ds := xs) (by simpa only [D.lite] using h); simpa only [D.liteE] using this
  | .lst xs, h => by have := lite_EL (ds := xs) (by simpa only [D.lite] using h); simpa only [D.liteE] using this
  | .obj _ _ _, h => by simp only [D.lite] at h
  | .ref _, h => by simp only [D.lite] at h
  | .scr _, h => by simp only [D.lite] at h
  | .dct _ _, h => by simp only [D.lite] at h
theorem lite_EL : ∀ {ds : List D}, D.liteL ds → D.liteEL ds
  | [], _ => by simp only [D.liteEL]
  | x :: r, h => by
    simp only [D.liteL] at h
    simp only [D.liteEL]
    exact ⟨lite_E h.1, lite_EL h.2⟩
end
mutual
theorem liteE_show : ∀ {d : D}, d.liteE → d.py.showable = true
  | .non, _ => rfl
  | .bl _, _ => rfl
  | .int i, h => by
    simp only [D.liteE] at h
    have := log_lt' h
    simp only [D.py, PyData.showable, decide_eq_true_eq]
    omega
  | .str _, h => rfl
  | .tup xs, h => by have := liteE_showL (ds := xs) (by simpa only [D.liteE] using h); simpa only [D.py, PyData.showable] using this
  | .lst xs, h => by have := liteE_showL (ds := xs) (by simpa only [D.liteE] using h); simpa only [D.py, PyData.showable] using this
  | .obj _ _ _, h => by simp only [D.liteE] at h
  | .ref _, h => by simp only [D.liteE] at h
  | .scr _, h => by simp only [D.liteE] at h
  | .dct _ _, h => rfl
theorem liteE_showL : ∀ {ds : List D}, D.liteEL ds → PyData.showableAll (D.pyL ds) = true
  | [], _ => rfl
  | x :: r, h => by
    simp only [D.liteEL] at h
    simp only [D.pyL, PyData.showableAll, liteE_show h.1, liteE_showL h.2, Bool.and_self]
end
mutual
theorem liteE_short : ∀ {d : D}, d.liteE → d.py.leavesShort 2000 = true
  | .non, _ => rfl
  | .bl _, _ => rfl
  | .int i, h => by
    simp only [D.liteE] at h
    have h1 := int_text_length_le (a := i) (k := 1900) (by decide) (log_lt' h)
    have e : (PyData.shown (.int i)).length = (toString i).length := by
      show (Str.ofString (toString i)).length = _
      exact PySem.ofString_length _
    simp only [D.py, PyData.leavesShort, decide_eq_true_eq]
    omega
  | .str _, h => by simp only [D.liteE] at h; simp only [D.py, PyData.leavesShort]; exact h.2.2
  | .tup xs, h => by have := liteE_shortL (ds := xs) (by simpa only [D.liteE] using h); simpa only [D.py, PyData.leavesShort] using this
  | .lst xs, h => by have := liteE_shortL (ds := xs) (by simpa only [D.liteE] using h); simpa only [D.py, PyData.leavesShort] using this
  | .obj _ _ _, h => by simp only [D.liteE] at h
  | .ref _, h => by simp only [D.liteE] at h
  | .scr _, h => by simp only [D.liteE] at h
  | .dct _ _, h => rfl
theorem liteE_shortL : ∀ {ds : List D}, D.liteEL ds → PyData.leavesShortAll 2000 (D.pyL ds) = true
  | [], _ => rfl
  | x :: r, h => by
    simp only [D.liteEL] at h
    simp only [D.pyL, PyData.leavesShortAll, liteE_short h.1, liteE_shortL h.2, Bool.and_self]
end
/-- a list that can be shown, empty dicts among its things -/
def ReprG (xs : List D) : Prop := D.liteEL xs ∧ (D.py (.lst xs)).bulk ≤ 4000 ∧ (D.py (.lst xs)).depth ≤ 59
def fReprG : List D → PD
  | [.lst xs] => some (ReprG xs, .str (D.py (.lst xs)).shown)
  | ds => fRepr ds
theorem fReprG_lst {xs : List D} : fReprG [.lst xs] = some (ReprG xs, .str (D.py (.lst xs)).shown) := rfl
mutual
/-- data in the heap, empty dicts too -/
inductive Dq (K : PySem.W.Frag) (H : Hp) : D → V → Prop
  | non : Dq K H .non .non
  | bl (b : Bool) : Dq K H (.bl b) (.bl b)
  | int (i : Int) : Dq K H (.int i) (.int i)
  | str (x : Str) : Dq K H (.str x) (.str x)
  | lst {a : Addr} {xs : List V} {ds : List D} : H a = some (.lst xs) → DqL K H ds xs → Dq K H (.lst ds) (.ref a)
  | tup {a : Addr} {xs : List V} {ds : List D} : SqT K H a xs → DqL K H ds xs → Dq K H (.tup ds) (.ref a)
  | dct {a : Addr} : H a = some (.dK []) → Dq K H (.dct [] []) (.ref a)
inductive DqL (K : PySem.W.Frag) (H : Hp) : List D → List V → Prop
  | nil : DqL K H [] []
  | cons {d : D} {ds : List D} {v : V} {vs : List V} : Dq K H d v → DqL K H ds vs → DqL K H (d :: ds) (v :: vs)
end
mutual
theorem Rep.dq {K : PySem.W.Frag} {F H : Hp} (s : Same F H) : ∀ {d : D} {v : V}, Rep K F d v → d.liteE → Dq K H d v
  | _, _, .non, _ => .non
  | _, _, .bl b, _ => .bl b
  | _, _, .int i, _ => .int i
  | _, _, .str x, _ => .str x
  | _, _, .tup h q, l => .tup (same_t s h) (RepL.dq s q (by simpa only [D.liteE] using l))
  | _, _, .lst h q, l => .lst (s _ _ h) (RepL.dq s q (by simpa only [D.liteE] using l))
  | _, _, .obj _ _ _, l => by simp only [D.liteE] at l
  | _, _, .ref _ _, l => by simp only [D.liteE] at l
  | _, _, .scr _ _, l => by simp only [D.liteE] at l
  | _, _, .dct (kvs := kvs) h q r, l => by
    simp only [D.liteE] at l
    obtain ⟨rfl, rfl⟩ := l
    have e : kvs = [] := by simpa using q
    subst e
    exact .dct (s _ _ h)
theorem RepL.dq {K : PySem.W.Frag} {F H : Hp} (s : Same F H) : ∀ {ds : List D} {vs : List V}, RepL K F ds vs → D.liteEL ds → DqL K H ds vs
  | _, _, .nil, _ => .nil
  | _, _, .cons h q, l => by
    simp only [D.liteEL] at l
    exact .cons (Rep.dq s h l.1) (RepL.dq s q l.2)
end
section
variable {X : Cx} {pins : List (Addr × Obj)} {σ : L2.St} {H : Hp} {s : Shared}
theorem lst_ne_sys (I : Inv X pins σ H s) (sy : SysOk X.K) {a : Addr} {xs : List V} (ha : H a = some (.lst xs)) : a ≠ sysModules := fun z => by
  obtain ⟨_, its, n, rv, hga⟩ := I.hok a _ ha
  obtain ⟨o1, h1, c1⟩ := sy
  have g1 := I.kIn _ _ h1
  rw [z] at hga
  rw [hga] at g1
  cases g1
  exact absurd (show ("list" : String) = "dict" by injection c1) (by decide)
mutual
theorem Dq.reads (I : Inv X pins σ H s) (sy : SysOk X.K) : ∀ {d : D} {v : V} {u : Value}, Dq X.K H d v → RelV v u → ∃ as, Reads s.heap u d.py as ∧ sysModules ∉ as
  | _, _, _, .non, r => by cases r; exact ⟨_, Reads.none, by simp⟩
  | _, _, _, .bl b, r => by cases r; exact ⟨_, Reads.bool b, by simp⟩
  | _, _, _, .int i, r => by obtain ⟨t, rfl⟩ := r; exact ⟨_, Reads.int i t, by simp⟩
  | _, _, _, .str x, r => by obtain ⟨t, rfl⟩ := r; exact ⟨_, Reads.str x t, by simp⟩
  | _, _, _, .lst (a := a) h q, r => by
    cases r
    obtain ⟨_, its, n, rv, hga⟩ := I.hok a _ h
    obtain ⟨as, hr, hn⟩ := DqL.reads I sy q rv
    exact ⟨_, Reads.list hga rfl rfl hr, by rw [List.mem_cons]; exact fun z => z.elim (fun z => lst_ne_sys I sy h z.symm) hn⟩
  | _, _, _, .tup h q, r => by
    cases r
    obtain ⟨its, rv, ⟨o, ho, hc, n, hd⟩, _⟩ := I.tuple h
    obtain ⟨as, hr, hn⟩ := DqL.reads I sy q rv
    exact ⟨_, Reads.tuple ho hc hd hr, hn⟩
  | _, _, _, .dct (a := b) h, r => by
    cases r
    obtain ⟨_, nb, vs, kv, ob, esb, ep, hgb, ex, hdat, _, prs, _⟩ := I.hok b _ h
    have hvs : vs = [] := by
      have kv : Paired _ [] vs := kv
      cases kv
      rfl
    subst hvs
    have hes : esb.toList = [] := by
      cases q2 : esb.toList with
      | nil => rfl
      | cons x r => rw [q2] at prs; cases prs
    have nb' : b ≠ sysModules := fun z => by simp [z] at nb
    exact ⟨_, Reads.dict hgb ex.1 hdat (by rw [hes]; exact ReadsAll.nil) (by rw [hes]; exact ReadsAll.nil), by simp; exact fun z => nb' z.symm⟩
theorem DqL.reads (I : Inv X pins σ H s) (sy : SysOk X.K) : ∀ {ds : List D} {vs : List V} {us : List Value}, DqL X.K H ds vs → Vals vs us → ∃ as, ReadsAll s.heap us (D.pyL ds) as ∧ sysModules ∉ as
  | _, _, _, .nil, r => by cases r; exact ⟨_, ReadsAll.nil, by simp⟩
  | _, _, _, .cons h q, r => by
    cases r with
    | cons r1 r2 =>
      obtain ⟨as, h1, n1⟩ := Dq.reads I sy h r1
      obtain ⟨bs, h2, n2⟩ := DqL.reads I sy q r2
      exact ⟨_, ReadsAll.cons h1 h2, by rw [List.mem_append]; exact fun z => z.elim n1 n2⟩
end
end
def spReprG (K : PySem.W.Frag) : List V → Hp → VK → Prop := fun xs H Q => spReprE K xs H Q ∨ ∃ a ds, xs = [.ref a] ∧ Dq K H (.lst ds) (.ref a) ∧ ReprG ds ∧ Q (.str (D.py (.lst ds)).shown) H
section
variable {X : Cx} {a b e : Expr} {fa fb : dE} {es : List Expr} {fr : dA} {p pos : Pos}
theorem call_reprG (sy : SysOk X.K) (hgd : X.A.guards = some []) (hu : X.A.units + 66 < cLine) : CallR X (.builtin "repr") (spReprG X.K) := by
  intro pins s σ H xs us Q I r h
  rcases h with h | h
  · exact call_reprE sy hgd hu pins s σ H xs us Q I r h
  · obtain ⟨a, ds, rfl, hq, ⟨hl, hb, hd⟩, q⟩ := h
    obtain ⟨u, rfl, ru⟩ := vals1 r
    have e : u = Value.ref a := ru
    subst e
    obtain ⟨as, rd, hn⟩ := Dq.reads I sy hq rfl
    have hl' : (D.lst ds).liteE := by simpa only [D.liteE] using hl
    refine repr_of_reads' rd (liteE_show hl') (fun _ z => hn z) hgd (by omega) (fun _ _ e => e) (fun h' u tk hk => ?_) ?_
    · exact ⟨.str _, H, I.kept (h' := h') (t' := tk) hk, ⟨_, rfl⟩, q⟩
    · have h1 := PyData.shown_le_bulk 2000 (by decide) (D.py (.lst ds)) (liteE_short hl')
      have h2 : (2000 + 2) * (D.py (.lst ds)).bulk ≤ 2002 * 4000 := Nat.mul_le_mul_left _ hb
      rw [sizeLine_eq]
      omega
theorem fReprG_ok {K : PySem.W.Frag} : BltS K (spReprG K) (oG fReprG) := by
  intro t F H T ds vs k Q wt r q f
  by_cases hx : ∃ xs, ds = [.lst xs]
  · obtain ⟨xs, rfl⟩ := hx
    have q : ReprG xs ∧ k (.str (D.py (.lst xs)).shown) T := q
    obtain ⟨q1, q2⟩ := q
    cases r with
    | cons r rr =>
      cases rr
      have r0 := Rep.dq wt.sub r (show (D.lst xs).liteE by simpa only [D.liteE] using q1.1)
      obtain ⟨a, ws, rfl, h, r⟩ := rep_lst r
      exact .inr ⟨a, xs, rfl, r0, q1, f.val wt (.str _) q2⟩
  · refine .inl (fReprE_ok wt r ?_ f)
    have e : fReprG ds = fReprE ds := by
      unfold fReprG fReprE
      split
      · exact absurd ⟨_, rfl⟩ hx
      · first
        | rfl
        | (split
           · exact absurd ⟨_, rfl⟩ hx
           · rfl)
    unfold oG at q ⊢
    rw [e] at q
    exact q
theorem g_reprG (sy : SysOk X.K) (hgd : X.A.guards = some []) (hu : X.A.units + 66 < cLine) (hm : X.mg "repr" = none) (ha : PAd X (e :: es) fr) (hg : Gl X "repr" := by rfl)
    (he : starEach (e :: es) X.env = (false, eval e X.env) :: starEach es X.env := by rfl) (hp : (backTo pos (starEach es X.env)).any (·.1) = false := by rfl) : PEd X (.Call (.Name "repr" p) (e :: es) [] pos) (dBlt (oG fReprG) fr) := d_blt (call_reprG sy hgd hu) fReprG_ok hm ha boot_repr' hg (by decide) (by decide) he hp
/-! != [] -/
def rNeE (K : PySem.W.Frag) : R2 := fun x y H Q => ∃ a b xs, x = .ref a ∧ y = .ref b ∧ H a = some (.lst xs) ∧ H b = some (.lst []) ∧ Q (.bl (!xs.isEmpty)) H
theorem op_neE (hu : X.A.units < cLine) : OpR X (compareOp .NotEq) (rNeE X.K) := by
  intro pins s σ H x y v u Q I rx ry h
  obtain ⟨a, b, xs, rfl, rfl, ha, hb, q⟩ := h
  cases rx
  cases ry
  obtain ⟨_, its, n, rv, hga⟩ := I.hok a _ ha
  obtain ⟨_, its2, n2, rv2, hgb⟩ := I.hok b _ hb
  cases rv2
  have la : s.heap.IsList a its.toArray := ⟨_, hga, rfl, _, rfl⟩
  have lb : s.heap.IsList b #[] := ⟨_, hgb, rfl, _, rfl⟩
  cases xs with
  | nil =>
    cases rv
    exact SeqAt.RcNeAt.lists (e := fun _ => true) la lb rfl hu (fun j h1 => absurd h1 (Nat.not_lt_zero _)) _ _ _ _ ⟨.bl _, H, I, rfl, q⟩
  | cons x xs =>
    cases rv with
    | cons r1 r2 => exact SeqAt.RcNeAt.lists_lengths la lb (by simp) hu _ _ _ _ ⟨.bl _, H, I, rfl, q⟩
def fNeE : D → D → PD
  | .lst xs, .lst [] => some (True, .bl (!xs.isEmpty))
  | _, _ => none
theorem fNeE_lst {xs : List D} : fNeE (.lst xs) (.lst []) = some (True, .bl (!xs.isEmpty)) := rfl
theorem fNeE_ok {K : PySem.W.Frag} : OpS K (rNeE K) (oF fNeE) := by
  intro t F H T x y v w k Q wt r1 r2 q f
  unfold oF at q
  split at q
  · rename_i p e
    unfold fNeE at e
    split at e
    · rename_i xs
      cases e
      obtain ⟨a, ws, rfl, h, r⟩ := rep_lst r1
      obtain ⟨b, us, rfl, h2, r2⟩ := rep_lst r2
      cases r2
      have q2 := q.2
      have e3 : ws.isEmpty = xs.isEmpty := by cases r <;> rfl
      refine ⟨a, b, ws, rfl, rfl, wt.sub _ _ h, wt.sub _ _ h2, ?_⟩
      rw [e3]
      exact f.val wt (.bl _) q2
    · cases e
  · exact q.elim
theorem t_fneE (hu : X.A.units < cLine) (ha : PEd X a fa) (hb : PEd X b fb) : PTd X (.Compare a [.NotEq] [b] pos) (dTst (dOp (oF fNeE) fa fb)) := d_tcmp (op_neE hu) fNeE_ok ha hb (nomark _)
end
end L2.G
namespace L2
open PySem PySem.Spec PyProof.Rows
theorem tuple_mul1 (l : Addr) (items : Array Value) (n : Nat) (dd : Option Addr) (sl : Array (Option Value)) (u : Tok) :
    Meets (Builtin.«tuple.__mul__» ⟨[.ref l, .int 1 u], []⟩) (fun _ R s => s.heap.get? l = some { cls := .type "tuple", dict := dd, data := .seq items n, slots := sl } ∧ R (.ok (.ret (Value.ref l))) s) :=
  .of_wp fun prog w A R s h => by
    obtain ⟨hp, g, d, tk, os⟩ := s
    obtain ⟨hl, h⟩ := h
    have f1 := AutoSeq1.idx_int
    have c1 : (items.isEmpty || (1 : Int) == 1) = true := by simp
    wp_walk using wpAny_loadPart' hl
    repeat (first
      | (refine wpAny_ite_false (by decide) ?_; wp_walk using wpAny_loadPart' hl)
      | (refine wpAny_ite_true (decide_eq_true c1) ?_; wp_walk using wpAny_loadPart' hl))
    exact ⟨_, rfl, h⟩
def rRepT1 (K : PySem.W.Frag) : R2 := fun x y H Q => ∃ l xs, x = .ref l ∧ y = .int 1 ∧ SqT K H l xs ∧ Q (.ref l) H
theorem op_repT1 {X : Cx} : OpR X (binaryOp .Mult) (rRepT1 X.K) := by
  intro pins s σ H x y v u Q I rx ry h
  obtain ⟨l, xs, rfl, rfl, hT, q⟩ := h
  cases rx
  obtain ⟨t, rfl⟩ := ry
  obtain ⟨its, r, ⟨⟨cls, dd, data, sl⟩, ho, hc, n, hd⟩, hs⟩ := I.tuple hT
  simp only at hc hd
  subst hc hd
  refine wpAny_binaryOp_repeat_ref (T := "tuple") (U := "int") (by decide) ⟨_, ho, rfl⟩ (fun s' => typeIs_int s' 1 t) noFill_tuple_mul F.fills_int_mul F.slot_int_rmul repeat_tuple F.slot_int_index.lookup
    (call_meets F.slot_int_rmul (typeIs_int s 1 t) F.entry_int_rmul (F.args_int_rmul_2 _ _) (int_rmul_tuple 1 t l its.toArray n dd sl)
      ⟨ho, rfl, ⟨_, ho, rfl⟩, call_meets F.slot_tuple_mul ⟨_, ho, rfl⟩ F.entry_tuple_mul (F.args_tuple_mul_2 _ _) (tuple_mul1 l its.toArray n dd sl t) ⟨ho, ?_⟩⟩)
  exact ⟨.ref l, H, I, rfl, q⟩
end L2
namespace L2.G
open PySem PySem.Spec PyProof.Rows
def fMulU : D → D → PD
  | .tup xs, .int n => some (xs ≠ [] ∧ 1 ≤ n ∧ n ≤ 1000 ∧ xs.length ≤ 1000, .tup (repD xs n.toNat))
  | _, _ => none
theorem fMulU_tup {xs : List D} {i : Int} : fMulU (.tup xs) (.int i) = some (xs ≠ [] ∧ 1 ≤ i ∧ i ≤ 1000 ∧ xs.length ≤ 1000, .tup (repD xs i.toNat)) := rfl
theorem fMulU_ok {K : PySem.W.Frag} : OpS K (fun x y H Q => rRepT K x y H Q ∨ rRepT1 K x y H Q) (oF fMulU) := by
  intro t F H T x y v w k Q wt r1 r2 q f
  cases x with
  | tup xs =>
    cases y with
    | int n =>
      obtain ⟨⟨q1, q2, q3, q4⟩, q5⟩ := q
      by_cases e : n = 1
      · subst e
        have e1 : repD xs (1 : Int).toNat = xs := by
          show (List.replicate 1 xs).flatten = xs
          simp
        rw [e1] at q5
        have r1' := r1
        obtain ⟨a, vs, rfl, h1, r1⟩ := rep_tup r1
        cases r2
        exact .inr ⟨a, vs, rfl, rfl, same_t wt.sub h1, f.val wt r1' q5⟩
      · exact .inl (fMulT_ok wt r1 r2 ⟨⟨q1, by omega, q3, q4⟩, q5⟩ f)
    | _ => exact q.elim
  | _ => exact q.elim
theorem f_mulU {X : Cx} {a b : Expr} {fa fb : dE} {pos : Pos} (ha : PEd X a fa) (hb : PEd X b fb) : PEd X (.BinOp a .Mult b pos) (dOp (oF fMulU) fa fb) := d_op (op_repT.or op_repT1) fMulU_ok ha hb
end L2.G

namespace L2.G
open PySem PySem.Spec PyProof.Rows
def topS (i : Nat) : Stmt := PySem.Challenge.pw_drawarms_k05_complexes_and_places_refuse.main.body.getD i (.Pass ⟨0, 0, 0, 0⟩)
def k_UNITS : D := (.tup [(.tup [(.int 1), (.int 0)]), (.tup [(.int 0), (.int 1)]), (.tup [(.int (-1)), (.int 0)]), (.tup [(.int 0), (.int (-1))])])
def k_ZERO : D := (.tup [(.int 0), (.int 0)])
def k_MOST_NUMBERS : D := (.int 8)
def k_FAR : D := (.tup [(.int 1), (.int 0), (.int 0)])
def k_NOUGHT : D := (.tup [(.int 0), (.int 0), (.int 1)])
abbrev st_InvalidComplex__init : Stmt := initS (topS 3)
abbrev st_InvalidNumbers__init : Stmt := initS (topS 4)
abbrev st_InvalidRatio__init : Stmt := initS (topS 6)
def is_InvalidNumber : Str → Option Bool := fun nm => if nm = "NoPlace" then some false else if nm = "ArmError" then some false else if nm = "InvalidComplex" then some false else if nm = "InvalidNumbers" then some false else if nm = "InvalidRatio" then some false else none
theorem is_InvalidNumber_NoPlace : is_InvalidNumber "NoPlace" = some false := by decide +kernel
theorem is_InvalidNumber_InvalidComplex : is_InvalidNumber "InvalidComplex" = some false := by decide +kernel
theorem is_InvalidNumber_InvalidNumbers : is_InvalidNumber "InvalidNumbers" = some false := by decide +kernel
theorem is_InvalidNumber_InvalidRatio : is_InvalidNumber "InvalidRatio" = some false := by decide +kernel
def is_InvalidPlace : Str → Option Bool := fun nm => if nm = "NoPlace" then some false else if nm = "ArmError" then some false else if nm = "InvalidComplex" then some false else if nm = "InvalidNumbers" then some false else if nm = "InvalidRatio" then some false else none
theorem is_InvalidPlace_NoPlace : is_InvalidPlace "NoPlace" = some false := by decide +kernel
theorem is_InvalidPlace_InvalidComplex : is_InvalidPlace "InvalidComplex" = some false := by decide +kernel
theorem is_InvalidPlace_InvalidNumbers : is_InvalidPlace "InvalidNumbers" = some false := by decide +kernel
theorem is_InvalidPlace_InvalidRatio : is_InvalidPlace "InvalidRatio" = some false := by decide +kernel
def is_NoPlace : Str → Option Bool := fun nm => if nm = "NoPlace" then some true else if nm = "ArmError" then some false else if nm = "InvalidComplex" then some false else if nm = "InvalidNumbers" then some false else if nm = "InvalidRatio" then some false else none
theorem is_NoPlace_NoPlace : is_NoPlace "NoPlace" = some true := by decide +kernel
theorem is_NoPlace_InvalidComplex : is_NoPlace "InvalidComplex" = some false := by decide +kernel
theorem is_NoPlace_InvalidNumbers : is_NoPlace "InvalidNumbers" = some false := by decide +kernel
theorem is_NoPlace_InvalidRatio : is_NoPlace "InvalidRatio" = some false := by decide +kernel
def is_InvalidRatio : Str → Option Bool := fun nm => if nm = "NoPlace" then some false else if nm = "ArmError" then some false else if nm = "InvalidComplex" then some false else if nm = "InvalidNumbers" then some false else if nm = "InvalidRatio" then some true else none
theorem is_InvalidRatio_NoPlace : is_InvalidRatio "NoPlace" = some false := by decide +kernel
theorem is_InvalidRatio_InvalidComplex : is_InvalidRatio "InvalidComplex" = some false := by decide +kernel
theorem is_InvalidRatio_InvalidNumbers : is_InvalidRatio "InvalidNumbers" = some false := by decide +kernel
theorem is_InvalidRatio_InvalidRatio : is_InvalidRatio "InvalidRatio" = some true := by decide +kernel
def is_InvalidNumbers : Str → Option Bool := fun nm => if nm = "NoPlace" then some false else if nm = "ArmError" then some false else if nm = "InvalidComplex" then some false else if nm = "InvalidNumbers" then some true else if nm = "InvalidRatio" then some false else none
theorem is_InvalidNumbers_NoPlace : is_InvalidNumbers "NoPlace" = some false := by decide +kernel
theorem is_InvalidNumbers_InvalidComplex : is_InvalidNumbers "InvalidComplex" = some false := by decide +kernel
theorem is_InvalidNumbers_InvalidNumbers : is_InvalidNumbers "InvalidNumbers" = some true := by decide +kernel
theorem is_InvalidNumbers_InvalidRatio : is_InvalidNumbers "InvalidRatio" = some false := by decide +kernel
def is_InvalidComplex : Str → Option Bool := fun nm => if nm = "NoPlace" then some false else if nm = "ArmError" then some false else if nm = "InvalidComplex" then some true else if nm = "InvalidNumbers" then some false else if nm = "InvalidRatio" then some false else none
theorem is_InvalidComplex_NoPlace : is_InvalidComplex "NoPlace" = some false := by decide +kernel
theorem is_InvalidComplex_InvalidComplex : is_InvalidComplex "InvalidComplex" = some true := by decide +kernel
theorem is_InvalidComplex_InvalidNumbers : is_InvalidComplex "InvalidNumbers" = some false := by decide +kernel
theorem is_InvalidComplex_InvalidRatio : is_InvalidComplex "InvalidRatio" = some false := by decide +kernel
def is_ValueError : Str → Option Bool := fun nm => if nm = "NoPlace" then some true else if nm = "ArmError" then some true else if nm = "InvalidComplex" then some true else if nm = "InvalidNumbers" then some true else if nm = "InvalidRatio" then some true else none
theorem is_ValueError_NoPlace : is_ValueError "NoPlace" = some true := by decide +kernel
theorem is_ValueError_InvalidComplex : is_ValueError "InvalidComplex" = some true := by decide +kernel
theorem is_ValueError_InvalidNumbers : is_ValueError "InvalidNumbers" = some true := by decide +kernel
theorem is_ValueError_InvalidRatio : is_ValueError "InvalidRatio" = some true := by decide +kernel
def gv_given : Str → Bool := fun nm => if nm = "InvalidComplex" then true else if nm = "InvalidNumbers" then true else if nm = "InvalidRatio" then true else false
theorem gv_given_InvalidComplex : gv_given "InvalidComplex" = true := by decide +kernel
theorem gv_given_InvalidNumbers : gv_given "InvalidNumbers" = true := by decide +kernel
theorem gv_given_InvalidRatio : gv_given "InvalidRatio" = true := by decide +kernel
def mt_ArmError : Str → Option Bool := fun nm => if nm = "ArmError" then some true else if nm = "InvalidComplex" then some true else if nm = "InvalidNumbers" then some true else if nm = "InvalidPlace" then some true else if nm = "InvalidRatio" then some true else if nm = "InvalidNumber" then some true else if nm = "NoPlace" then some true else none
abbrev st_is_whole : Stmt := topS 10
theorem sc_is_whole : FnScope ["value"] ["value"] (defScope st_is_whole) := ⟨rfl, rfl, rfl, by decide +kernel, rfl, by decide +kernel, by decide +kernel⟩
def b_is_whole : dS := sRet (dAndV (dIsi .int (dVar 0)) (dNotV (dIsi .bool (dVar 0))))
def sm_is_whole : Sem := semOf ["value"] b_is_whole
theorem e_is_whole (a0 : SV) (T : Tk) (k : KD) : sm_is_whole [a0] T k = b_is_whole { nx := fun _ T => k .non T, rt := k, bk := fun _ _ => False, ct := fun _ _ => False } [some a0] T := rfl
abbrev st_are_wholes : Stmt := topS 11
theorem sc_are_wholes : FnScope ["value", "many", "number"] ["value", "many"] (defScope st_are_wholes) := ⟨rfl, rfl, rfl, by decide +kernel, rfl, by decide +kernel, by decide +kernel⟩
def b_are_wholes : dS := sRet (dAndV (dIsi .tuple (dVar 0)) (dAndV (dOp (oF fEq) (dBlt (oG fLen) (aCons (dVar 0) (aNil))) (dVar 1)) (dBlt (oG fAll) (aCons (dLc [2] (iQ (dVar 0)) (cN 2) dYes (dCall 1 sm_is_whole (aCons (dVar 2) (aNil)))) (aNil)))))
def sm_are_wholes : Sem := semOf ["value", "many", "number"] b_are_wholes
theorem e_are_wholes (a0 a1 : SV) (T : Tk) (k : KD) : sm_are_wholes [a0, a1] T k = b_are_wholes { nx := fun _ T => k .non T, rt := k, bk := fun _ _ => False, ct := fun _ _ => False } [some a0, some a1, none] T := rfl
abbrev st_divisor_of : Stmt := topS 12
theorem sc_divisor_of : FnScope ["numbers", "found", "number"] ["numbers"] (defScope st_divisor_of) := ⟨rfl, rfl, rfl, by decide +kernel, rfl, by decide +kernel, by decide +kernel⟩
def b_divisor_of : dS := sSeq (sAsg (dC (.int 0)) (gN 1)) (sSeq (sForI (iQ (dVar 0)) (gN 2) (sAsg (dBlt (oG (fI2 iGcd)) (aCons (dVar 1) (aCons (dVar 2) (aNil)))) (gN 1))) (sRet (dVar 1)))
def sm_divisor_of : Sem := semOf ["numbers", "found", "number"] b_divisor_of
theorem e_divisor_of (a0 : SV) (T : Tk) (k : KD) : sm_divisor_of [a0] T k = b_divisor_of { nx := fun _ T => k .non T, rt := k, bk := fun _ _ => False, ct := fun _ _ => False } [some a0, none, none] T := rfl
abbrev st_lowest : Stmt := topS 13
theorem sc_lowest : FnScope ["numbers", "divisor", "number"] ["numbers"] (defScope st_lowest) := ⟨rfl, rfl, rfl, by decide +kernel, rfl, by decide +kernel, by decide +kernel⟩
def b_lowest : dS := sSeq (sAsg (dCall 1 sm_divisor_of (aCons (dVar 0) (aNil))) (gN 1)) (sRet (dBlt (oG fTuple) (aCons (dLc [2] (iQ (dVar 0)) (cN 2) dYes (dOp (oF fDiv) (dVar 2) (dVar 1))) (aNil))))
def sm_lowest : Sem := semOf ["numbers", "divisor", "number"] b_lowest
theorem e_lowest (a0 : SV) (T : Tk) (k : KD) : sm_lowest [a0] T k = b_lowest { nx := fun _ T => k .non T, rt := k, bk := fun _ _ => False, ct := fun _ _ => False } [some a0, none, none] T := rfl
abbrev st_is_lowest : Stmt := topS 14
theorem sc_is_lowest : FnScope ["numbers"] ["numbers"] (defScope st_is_lowest) := ⟨rfl, rfl, rfl, by decide +kernel, rfl, by decide +kernel, by decide +kernel⟩
def b_is_lowest : dS := sRet (dOp (oF fEq) (dCall 1 sm_divisor_of (aCons (dVar 0) (aNil))) (dC (.int 1)))
def sm_is_lowest : Sem := semOf ["numbers"] b_is_lowest
theorem e_is_lowest (a0 : SV) (T : Tk) (k : KD) : sm_is_lowest [a0] T k = b_is_lowest { nx := fun _ T => k .non T, rt := k, bk := fun _ _ => False, ct := fun _ _ => False } [some a0] T := rfl
abbrev st_fraction : Stmt := topS 15
theorem sc_fraction : FnScope ["number", "below"] ["number", "below"] (defScope st_fraction) := ⟨rfl, rfl, rfl, by decide +kernel, rfl, by decide +kernel, by decide +kernel⟩
def b_fraction : dS := sRet (dIf (dTst (dOp (oF fGt) (dVar 1) (dC (.int 0)))) (dCall 1 sm_lowest (aCons (dTup (aCons (dVar 0) (aCons (dVar 1) (aNil)))) (aNil))) (dCall 1 sm_lowest (aCons (dTup (aCons (dNeg (dVar 0)) (aCons (dNeg (dVar 1)) (aNil)))) (aNil))))
def sm_fraction : Sem := semOf ["number", "below"] b_fraction
theorem e_fraction (a0 a1 : SV) (T : Tk) (k : KD) : sm_fraction [a0, a1] T k = b_fraction { nx := fun _ T => k .non T, rt := k, bk := fun _ _ => False, ct := fun _ _ => False } [some a0, some a1] T := rfl
abbrev st_is_complex : Stmt := topS 20
theorem sc_is_complex : FnScope ["value"] ["value"] (defScope st_is_complex) := ⟨rfl, rfl, rfl, by decide +kernel, rfl, by decide +kernel, by decide +kernel⟩
def b_is_complex : dS := sRet (dCall 2 sm_are_wholes (aCons (dVar 0) (aCons (dC (.int 2)) (aNil))))
def sm_is_complex : Sem := semOf ["value"] b_is_complex
theorem e_is_complex (a0 : SV) (T : Tk) (k : KD) : sm_is_complex [a0] T k = b_is_complex { nx := fun _ T => k .non T, rt := k, bk := fun _ _ => False, ct := fun _ _ => False } [some a0] T := rfl
abbrev st_check_complex : Stmt := topS 21
theorem sc_check_complex : FnScope ["value"] ["value"] (defScope st_check_complex) := ⟨rfl, rfl, rfl, by decide +kernel, rfl, by decide +kernel, by decide +kernel⟩
def b_check_complex (r : RX) : dS := sIf (dNot (dTst (dCall 1 sm_is_complex (aCons (dVar 0) (aNil))))) (sRaise1 "InvalidComplex" "given" (dVar 0) r) ((fun k ρ T => k.nx ρ T))
def se_check_complex : SemX := semX ["value"] b_check_complex
theorem ex_check_complex (r : RK) (a0 : SV) (T : Tk) (k : KD) : se_check_complex r [a0] T k = b_check_complex (fun e _ T => r e T) { nx := fun _ T => k .non T, rt := k, bk := fun _ _ => False, ct := fun _ _ => False } [some a0] T := rfl
abbrev st_plus : Stmt := topS 22
theorem sc_plus : FnScope ["number", "other"] ["number", "other"] (defScope st_plus) := ⟨rfl, rfl, rfl, by decide +kernel, rfl, by decide +kernel, by decide +kernel⟩
def b_plus : dS := sRet (dTup (aCons (dOp (oF fAdd) (dOp (oF fIx) (dVar 0) (dC (.int 0))) (dOp (oF fIx) (dVar 1) (dC (.int 0)))) (aCons (dOp (oF fAdd) (dOp (oF fIx) (dVar 0) (dC (.int 1))) (dOp (oF fIx) (dVar 1) (dC (.int 1)))) (aNil))))
def sm_plus : Sem := semOf ["number", "other"] b_plus
theorem e_plus (a0 a1 : SV) (T : Tk) (k : KD) : sm_plus [a0, a1] T k = b_plus { nx := fun _ T => k .non T, rt := k, bk := fun _ _ => False, ct := fun _ _ => False } [some a0, some a1] T := rfl
abbrev st_minus : Stmt := topS 23
theorem sc_minus : FnScope ["number", "other"] ["number", "other"] (defScope st_minus) := ⟨rfl, rfl, rfl, by decide +kernel, rfl, by decide +kernel, by decide +kernel⟩
def b_minus : dS := sRet (dTup (aCons (dOp (oF fSub) (dOp (oF fIx) (dVar 0) (dC (.int 0))) (dOp (oF fIx) (dVar 1) (dC (.int 0)))) (aCons (dOp (oF fSub) (dOp (oF fIx) (dVar 0) (dC (.int 1))) (dOp (oF fIx) (dVar 1) (dC (.int 1)))) (aNil))))
def sm_minus : Sem := semOf ["number", "other"] b_minus
theorem e_minus (a0 a1 : SV) (T : Tk) (k : KD) : sm_minus [a0, a1] T k = b_minus { nx := fun _ T => k .non T, rt := k, bk := fun _ _ => False, ct := fun _ _ => False } [some a0, some a1] T := rfl
abbrev st_times : Stmt := topS 24
theorem sc_times : FnScope ["number", "other"] ["number", "other"] (defScope st_times) := ⟨rfl, rfl, rfl, by decide +kernel, rfl, by decide +kernel, by decide +kernel⟩
def b_times : dS := sRet (dTup (aCons (dOp (oF fSub) (dOp (oF fMul) (dOp (oF fIx) (dVar 0) (dC (.int 0))) (dOp (oF fIx) (dVar 1) (dC (.int 0)))) (dOp (oF fMul) (dOp (oF fIx) (dVar 0) (dC (.int 1))) (dOp (oF fIx) (dVar 1) (dC (.int 1))))) (aCons (dOp (oF fAdd) (dOp (oF fMul) (dOp (oF fIx) (dVar 0) (dC (.int 0))) (dOp (oF fIx) (dVar 1) (dC (.int 1)))) (dOp (oF fMul) (dOp (oF fIx) (dVar 0) (dC (.int 1))) (dOp (oF fIx) (dVar 1) (dC (.int 0))))) (aNil))))
def sm_times : Sem := semOf ["number", "other"] b_times
theorem e_times (a0 a1 : SV) (T : Tk) (k : KD) : sm_times [a0, a1] T k = b_times { nx := fun _ T => k .non T, rt := k, bk := fun _ _ => False, ct := fun _ _ => False } [some a0, some a1] T := rfl
abbrev st_turned_over : Stmt := topS 25
theorem sc_turned_over : FnScope ["number"] ["number"] (defScope st_turned_over) := ⟨rfl, rfl, rfl, by decide +kernel, rfl, by decide +kernel, by decide +kernel⟩
def b_turned_over : dS := sRet (dTup (aCons (dOp (oF fIx) (dVar 0) (dC (.int 0))) (aCons (dNeg (dOp (oF fIx) (dVar 0) (dC (.int 1)))) (aNil))))
def sm_turned_over : Sem := semOf ["number"] b_turned_over
theorem e_turned_over (a0 : SV) (T : Tk) (k : KD) : sm_turned_over [a0] T k = b_turned_over { nx := fun _ T => k .non T, rt := k, bk := fun _ _ => False, ct := fun _ _ => False } [some a0] T := rfl
abbrev st_square_size : Stmt := topS 26
theorem sc_square_size : FnScope ["number"] ["number"] (defScope st_square_size) := ⟨rfl, rfl, rfl, by decide +kernel, rfl, by decide +kernel, by decide +kernel⟩
def b_square_size : dS := sRet (dOp (oF fAdd) (dOp (oF fMul) (dOp (oF fIx) (dVar 0) (dC (.int 0))) (dOp (oF fIx) (dVar 0) (dC (.int 0)))) (dOp (oF fMul) (dOp (oF fIx) (dVar 0) (dC (.int 1))) (dOp (oF fIx) (dVar 0) (dC (.int 1)))))
def sm_square_size : Sem := semOf ["number"] b_square_size
theorem e_square_size (a0 : SV) (T : Tk) (k : KD) : sm_square_size [a0] T k = b_square_size { nx := fun _ T => k .non T, rt := k, bk := fun _ _ => False, ct := fun _ _ => False } [some a0] T := rfl
abbrev st_unit_for : Stmt := topS 27
theorem sc_unit_for : FnScope ["number", "unit", "found"] ["number"] (defScope st_unit_for) := ⟨rfl, rfl, rfl, by decide +kernel, rfl, by decide +kernel, by decide +kernel⟩
def b_unit_for : dS := sSeq (sForI (iQ (dSlQ (dC k_UNITS) (fun _ T k => k none T) (pSome (dC (.int 3))))) (gN 1) (sSeq (sAsg (dCall 2 sm_times (aCons (dVar 0) (aCons (dVar 1) (aNil)))) (gN 2)) (sIf (dAnd (dTst (dOp (oF fGt) (dOp (oF fIx) (dVar 2) (dC (.int 0))) (dC (.int 0)))) (dTst (dOp (oF fGe) (dOp (oF fIx) (dVar 2) (dC (.int 1))) (dC (.int 0))))) (sRet (dVar 1)) ((fun k ρ T => k.nx ρ T))))) (sRet (dOp (oF fIx) (dC k_UNITS) (dC (.int 3))))
def sm_unit_for : Sem := semOf ["number", "unit", "found"] b_unit_for
theorem e_unit_for (a0 : SV) (T : Tk) (k : KD) : sm_unit_for [a0] T k = b_unit_for { nx := fun _ T => k .non T, rt := k, bk := fun _ _ => False, ct := fun _ _ => False } [some a0, none, none] T := rfl
abbrev st_nearest : Stmt := topS 28
theorem sc_nearest : FnScope ["number", "below"] ["number", "below"] (defScope st_nearest) := ⟨rfl, rfl, rfl, by decide +kernel, rfl, by decide +kernel, by decide +kernel⟩
def b_nearest : dS := sRet (dOp (oF fDiv) (dOp (oF fAdd) (dOp (oF fMul) (dC (.int 2)) (dVar 0)) (dVar 1)) (dOp (oF fMul) (dC (.int 2)) (dVar 1)))
def sm_nearest : Sem := semOf ["number", "below"] b_nearest
theorem e_nearest (a0 a1 : SV) (T : Tk) (k : KD) : sm_nearest [a0, a1] T k = b_nearest { nx := fun _ T => k .non T, rt := k, bk := fun _ _ => False, ct := fun _ _ => False } [some a0, some a1] T := rfl
abbrev st_product : Stmt := topS 35
theorem sc_product : FnScope ["number", "other"] ["number", "other"] (defScope st_product) := ⟨rfl, rfl, rfl, by decide +kernel, rfl, by decide +kernel, by decide +kernel⟩
def b_product (r : RX) : dS := sSeq (sExpr (dCallX 1 se_check_complex r (aCons (dVar 0) (aNil)))) (sSeq (sExpr (dCallX 1 se_check_complex r (aCons (dVar 1) (aNil)))) (sRet (dCall 2 sm_times (aCons (dVar 0) (aCons (dVar 1) (aNil))))))
def se_product : SemX := semX ["number", "other"] b_product
theorem ex_product (r : RK) (a0 a1 : SV) (T : Tk) (k : KD) : se_product r [a0, a1] T k = b_product (fun e _ T => r e T) { nx := fun _ T => k .non T, rt := k, bk := fun _ _ => False, ct := fun _ _ => False } [some a0, some a1] T := rfl
abbrev st_divisor_of_two : Stmt := topS 29
theorem sc_divisor_of_two : FnScope ["number", "other", "one", "two", "product", "whole"] ["number", "other"] (defScope st_divisor_of_two) := ⟨rfl, rfl, rfl, by decide +kernel, rfl, by decide +kernel, by decide +kernel⟩
def b_divisor_of_two : dS := sSeq (sPar 2 3 (aCons (dVar 0) (aCons (dVar 1) (aNil)))) (sSeq (sWhile (dTst (dOp (oF fNe) (dVar 3) (dC k_ZERO))) (sSeq (sAsg (dCall 2 sm_times (aCons (dVar 2) (aCons (dCall 1 sm_turned_over (aCons (dVar 3) (aNil))) (aNil)))) (gN 4)) (sSeq (sAsg (dTup (aCons (dCall 2 sm_nearest (aCons (dOp (oF fIx) (dVar 4) (dC (.int 0))) (aCons (dCall 1 sm_square_size (aCons (dVar 3) (aNil))) (aNil)))) (aCons (dCall 2 sm_nearest (aCons (dOp (oF fIx) (dVar 4) (dC (.int 1))) (aCons (dCall 1 sm_square_size (aCons (dVar 3) (aNil))) (aNil)))) (aNil)))) (gN 5)) (sPar 2 3 (aCons (dVar 3) (aCons (dCall 2 sm_minus (aCons (dVar 2) (aCons (dCall 2 sm_times (aCons (dVar 5) (aCons (dVar 3) (aNil)))) (aNil)))) (aNil))))))) (sRet (dVar 2)))
def sm_divisor_of_two : Sem := semOf ["number", "other", "one", "two", "product", "whole"] b_divisor_of_two
theorem e_divisor_of_two (a0 a1 : SV) (T : Tk) (k : KD) : sm_divisor_of_two [a0, a1] T k = b_divisor_of_two { nx := fun _ T => k .non T, rt := k, bk := fun _ _ => False, ct := fun _ _ => False } [some a0, some a1, none, none, none, none] T := rfl
abbrev st_divisor_of_all : Stmt := topS 30
theorem sc_divisor_of_all : FnScope ["numbers", "found", "number"] ["numbers"] (defScope st_divisor_of_all) := ⟨rfl, rfl, rfl, by decide +kernel, rfl, by decide +kernel, by decide +kernel⟩
def b_divisor_of_all : dS := sSeq (sAsg (dC k_ZERO) (gN 1)) (sSeq (sForI (iQ (dVar 0)) (gN 2) (sAsg (dCall 2 sm_divisor_of_two (aCons (dVar 1) (aCons (dVar 2) (aNil)))) (gN 1))) (sRet (dVar 1)))
def sm_divisor_of_all : Sem := semOf ["numbers", "found", "number"] b_divisor_of_all
theorem e_divisor_of_all (a0 : SV) (T : Tk) (k : KD) : sm_divisor_of_all [a0] T k = b_divisor_of_all { nx := fun _ T => k .non T, rt := k, bk := fun _ _ => False, ct := fun _ _ => False } [some a0, none, none] T := rfl
abbrev st_divided : Stmt := topS 31
theorem sc_divided : FnScope ["number", "other", "product", "below"] ["number", "other"] (defScope st_divided) := ⟨rfl, rfl, rfl, by decide +kernel, rfl, by decide +kernel, by decide +kernel⟩
def b_divided : dS := sSeq (sPar 2 3 (aCons (dCall 2 sm_times (aCons (dVar 0) (aCons (dCall 1 sm_turned_over (aCons (dVar 1) (aNil))) (aNil)))) (aCons (dCall 1 sm_square_size (aCons (dVar 1) (aNil))) (aNil)))) (sSeq (sIf (dOr (dTst (dOp (oF fNe) (dOp (oF fMod) (dOp (oF fIx) (dVar 2) (dC (.int 0))) (dVar 3)) (dC (.int 0)))) (dTst (dOp (oF fNe) (dOp (oF fMod) (dOp (oF fIx) (dVar 2) (dC (.int 1))) (dVar 3)) (dC (.int 0))))) (sRet (dC .non)) ((fun k ρ T => k.nx ρ T))) (sRet (dTup (aCons (dOp (oF fDiv) (dOp (oF fIx) (dVar 2) (dC (.int 0))) (dVar 3)) (aCons (dOp (oF fDiv) (dOp (oF fIx) (dVar 2) (dC (.int 1))) (dVar 3)) (aNil))))))
def sm_divided : Sem := semOf ["number", "other", "product", "below"] b_divided
theorem e_divided (a0 a1 : SV) (T : Tk) (k : KD) : sm_divided [a0, a1] T k = b_divided { nx := fun _ T => k .non T, rt := k, bk := fun _ _ => False, ct := fun _ _ => False } [some a0, some a1, none, none] T := rfl
abbrev st_root : Stmt := topS 32
theorem sc_root : FnScope ["number", "length", "first", "second", "found"] ["number"] (defScope st_root) := ⟨rfl, rfl, rfl, by decide +kernel, rfl, by decide +kernel, by decide +kernel⟩
def b_root : dS := sSeq (sAsg (dBlt (oG fSqrt) (aCons (dCall 1 sm_square_size (aCons (dVar 0) (aNil))) (aNil))) (gN 1)) (sSeq (sAsg (dBlt (oG fSqrt) (aCons (dBlt (oG (fI2 iMax)) (aCons (dC (.int 0)) (aCons (dOp (oF fDiv) (dOp (oF fAdd) (dVar 1) (dOp (oF fIx) (dVar 0) (dC (.int 0)))) (dC (.int 2))) (aNil)))) (aNil))) (gN 2)) (sSeq (sAsg (dBlt (oG fSqrt) (aCons (dBlt (oG (fI2 iMax)) (aCons (dC (.int 0)) (aCons (dOp (oF fDiv) (dOp (oF fSub) (dVar 1) (dOp (oF fIx) (dVar 0) (dC (.int 0)))) (dC (.int 2))) (aNil)))) (aNil))) (gN 3)) (sSeq (sAsg (dTup (aCons (dVar 2) (aCons (dIf (dTst (dOp (oF fGe) (dOp (oF fIx) (dVar 0) (dC (.int 1))) (dC (.int 0)))) (dVar 3) (dNeg (dVar 3))) (aNil)))) (gN 4)) (sRet (dIf (dTst (dOp (oF fEq) (dCall 2 sm_times (aCons (dVar 4) (aCons (dVar 4) (aNil)))) (dVar 0))) (dVar 4) (dC .non))))))
def sm_root : Sem := semOf ["number", "length", "first", "second", "found"] b_root
theorem e_root (a0 : SV) (T : Tk) (k : KD) : sm_root [a0] T k = b_root { nx := fun _ T => k .non T, rt := k, bk := fun _ _ => False, ct := fun _ _ => False } [some a0, none, none, none, none] T := rfl
abbrev st_added : Stmt := topS 33
theorem sc_added : FnScope ["number", "other"] ["number", "other"] (defScope st_added) := ⟨rfl, rfl, rfl, by decide +kernel, rfl, by decide +kernel, by decide +kernel⟩
def b_added (r : RX) : dS := sSeq (sExpr (dCallX 1 se_check_complex r (aCons (dVar 0) (aNil)))) (sSeq (sExpr (dCallX 1 se_check_complex r (aCons (dVar 1) (aNil)))) (sRet (dCall 2 sm_plus (aCons (dVar 0) (aCons (dVar 1) (aNil))))))
def se_added : SemX := semX ["number", "other"] b_added
theorem ex_added (r : RK) (a0 a1 : SV) (T : Tk) (k : KD) : se_added r [a0, a1] T k = b_added (fun e _ T => r e T) { nx := fun _ T => k .non T, rt := k, bk := fun _ _ => False, ct := fun _ _ => False } [some a0, some a1] T := rfl
abbrev st_subtracted : Stmt := topS 34
theorem sc_subtracted : FnScope ["number", "other"] ["number", "other"] (defScope st_subtracted) := ⟨rfl, rfl, rfl, by decide +kernel, rfl, by decide +kernel, by decide +kernel⟩
def b_subtracted (r : RX) : dS := sSeq (sExpr (dCallX 1 se_check_complex r (aCons (dVar 0) (aNil)))) (sSeq (sExpr (dCallX 1 se_check_complex r (aCons (dVar 1) (aNil)))) (sRet (dCall 2 sm_minus (aCons (dVar 0) (aCons (dVar 1) (aNil))))))
def se_subtracted : SemX := semX ["number", "other"] b_subtracted
theorem ex_subtracted (r : RK) (a0 a1 : SV) (T : Tk) (k : KD) : se_subtracted r [a0, a1] T k = b_subtracted (fun e _ T => r e T) { nx := fun _ T => k .non T, rt := k, bk := fun _ _ => False, ct := fun _ _ => False } [some a0, some a1] T := rfl
abbrev st_conjugate : Stmt := topS 36
theorem sc_conjugate : FnScope ["number"] ["number"] (defScope st_conjugate) := ⟨rfl, rfl, rfl, by decide +kernel, rfl, by decide +kernel, by decide +kernel⟩
def b_conjugate (r : RX) : dS := sSeq (sExpr (dCallX 1 se_check_complex r (aCons (dVar 0) (aNil)))) (sRet (dCall 1 sm_turned_over (aCons (dVar 0) (aNil))))
def se_conjugate : SemX := semX ["number"] b_conjugate
theorem ex_conjugate (r : RK) (a0 : SV) (T : Tk) (k : KD) : se_conjugate r [a0] T k = b_conjugate (fun e _ T => r e T) { nx := fun _ T => k .non T, rt := k, bk := fun _ _ => False, ct := fun _ _ => False } [some a0] T := rfl
abbrev st_norm : Stmt := topS 37
theorem sc_norm : FnScope ["number"] ["number"] (defScope st_norm) := ⟨rfl, rfl, rfl, by decide +kernel, rfl, by decide +kernel, by decide +kernel⟩
def b_norm (r : RX) : dS := sSeq (sExpr (dCallX 1 se_check_complex r (aCons (dVar 0) (aNil)))) (sRet (dCall 1 sm_square_size (aCons (dVar 0) (aNil))))
def se_norm : SemX := semX ["number"] b_norm
theorem ex_norm (r : RK) (a0 : SV) (T : Tk) (k : KD) : se_norm r [a0] T k = b_norm (fun e _ T => r e T) { nx := fun _ T => k .non T, rt := k, bk := fun _ _ => False, ct := fun _ _ => False } [some a0] T := rfl
abbrev st_quarter_form : Stmt := topS 38
theorem sc_quarter_form : FnScope ["number"] ["number"] (defScope st_quarter_form) := ⟨rfl, rfl, rfl, by decide +kernel, rfl, by decide +kernel, by decide +kernel⟩
def b_quarter_form (r : RX) : dS := sSeq (sExpr (dCallX 1 se_check_complex r (aCons (dVar 0) (aNil)))) (sRet (dIf (dTst (dOp (oF fEq) (dVar 0) (dC k_ZERO))) (dC k_ZERO) (dCall 2 sm_times (aCons (dVar 0) (aCons (dCall 1 sm_unit_for (aCons (dVar 0) (aNil))) (aNil))))))
def se_quarter_form : SemX := semX ["number"] b_quarter_form
theorem ex_quarter_form (r : RK) (a0 : SV) (T : Tk) (k : KD) : se_quarter_form r [a0] T k = b_quarter_form (fun e _ T => r e T) { nx := fun _ T => k .non T, rt := k, bk := fun _ _ => False, ct := fun _ _ => False } [some a0] T := rfl
abbrev st_quotient : Stmt := topS 39
theorem sc_quotient : FnScope ["number", "other"] ["number", "other"] (defScope st_quotient) := ⟨rfl, rfl, rfl, by decide +kernel, rfl, by decide +kernel, by decide +kernel⟩
def b_quotient (r : RX) : dS := sSeq (sExpr (dCallX 1 se_check_complex r (aCons (dVar 0) (aNil)))) (sSeq (sExpr (dCallX 1 se_check_complex r (aCons (dVar 1) (aNil)))) (sRet (dIf (dTst (dOp (oF fEq) (dVar 1) (dC k_ZERO))) (dC .non) (dCall 2 sm_divided (aCons (dVar 0) (aCons (dVar 1) (aNil)))))))
def se_quotient : SemX := semX ["number", "other"] b_quotient
theorem ex_quotient (r : RK) (a0 a1 : SV) (T : Tk) (k : KD) : se_quotient r [a0, a1] T k = b_quotient (fun e _ T => r e T) { nx := fun _ T => k .non T, rt := k, bk := fun _ _ => False, ct := fun _ _ => False } [some a0, some a1] T := rfl
abbrev st_common_divisor : Stmt := topS 40
theorem sc_common_divisor : FnScope ["numbers", "number"] ["numbers"] (defScope st_common_divisor) := ⟨rfl, rfl, rfl, by decide +kernel, rfl, by decide +kernel, by decide +kernel⟩
def b_common_divisor (r : RX) : dS := sSeq (sIf (dOr (dNot (dTst (dIsi .tuple (dVar 0)))) (dNot (dChn (fun i j => decide (i ≤ j)) (fun i j => decide (i ≤ j)) (dC (.int 1)) (dBlt (oG fLen) (aCons (dVar 0) (aNil))) (dC k_MOST_NUMBERS)))) (sRaise1 "InvalidNumbers" "given" (dVar 0) r) ((fun k ρ T => k.nx ρ T))) (sSeq (sIf (dOr (dTst (dOp (oF fNeE) (dLc [1] (iQ (dVar 0)) (cN 1) (dNot (dTst (dCall 1 sm_is_complex (aCons (dVar 1) (aNil))))) (dVar 1)) (dLst (aNil)))) (dSetEq (dVar 0) (dC k_ZERO))) (sRaise1 "InvalidNumbers" "given" (dVar 0) r) ((fun k ρ T => k.nx ρ T))) (sRet (dCallX 1 se_quarter_form r (aCons (dCall 1 sm_divisor_of_all (aCons (dVar 0) (aNil))) (aNil)))))
def se_common_divisor : SemX := semX ["numbers", "number"] b_common_divisor
theorem ex_common_divisor (r : RK) (a0 : SV) (T : Tk) (k : KD) : se_common_divisor r [a0] T k = b_common_divisor (fun e _ T => r e T) { nx := fun _ T => k .non T, rt := k, bk := fun _ _ => False, ct := fun _ _ => False } [some a0, none] T := rfl
abbrev st_root_of : Stmt := topS 41
theorem sc_root_of : FnScope ["number"] ["number"] (defScope st_root_of) := ⟨rfl, rfl, rfl, by decide +kernel, rfl, by decide +kernel, by decide +kernel⟩
def b_root_of (r : RX) : dS := sSeq (sExpr (dCallX 1 se_check_complex r (aCons (dVar 0) (aNil)))) (sRet (dCall 1 sm_root (aCons (dVar 0) (aNil))))
def se_root_of : SemX := semX ["number"] b_root_of
theorem ex_root_of (r : RK) (a0 : SV) (T : Tk) (k : KD) : se_root_of r [a0] T k = b_root_of (fun e _ T => r e T) { nx := fun _ T => k .non T, rt := k, bk := fun _ _ => False, ct := fun _ _ => False } [some a0] T := rfl
abbrev st_is_place : Stmt := topS 45
theorem sc_is_place : FnScope ["value"] ["value"] (defScope st_is_place) := ⟨rfl, rfl, rfl, by decide +kernel, rfl, by decide +kernel, by decide +kernel⟩
def b_is_place : dS := sRet (dAndV (dCall 2 sm_are_wholes (aCons (dVar 0) (aCons (dC (.int 3)) (aNil)))) (dOrV (dOp (oF fEq) (dVar 0) (dC k_FAR)) (dAndV (dOp (oF fGt) (dOp (oF fIx) (dVar 0) (dC (.int 2))) (dC (.int 0))) (dCall 1 sm_is_lowest (aCons (dVar 0) (aNil))))))
def sm_is_place : Sem := semOf ["value"] b_is_place
theorem e_is_place (a0 : SV) (T : Tk) (k : KD) : sm_is_place [a0] T k = b_is_place { nx := fun _ T => k .non T, rt := k, bk := fun _ _ => False, ct := fun _ _ => False } [some a0] T := rfl
abbrev st_is_ratio : Stmt := topS 46
theorem sc_is_ratio : FnScope ["value"] ["value"] (defScope st_is_ratio) := ⟨rfl, rfl, rfl, by decide +kernel, rfl, by decide +kernel, by decide +kernel⟩
def b_is_ratio : dS := sRet (dAndV (dCall 1 sm_is_place (aCons (dVar 0) (aNil))) (dOp (oF fNe) (dVar 0) (dC k_FAR)))
def sm_is_ratio : Sem := semOf ["value"] b_is_ratio
theorem e_is_ratio (a0 : SV) (T : Tk) (k : KD) : sm_is_ratio [a0] T k = b_is_ratio { nx := fun _ T => k .non T, rt := k, bk := fun _ _ => False, ct := fun _ _ => False } [some a0] T := rfl
abbrev st_check_ratio : Stmt := topS 47
theorem sc_check_ratio : FnScope ["value"] ["value"] (defScope st_check_ratio) := ⟨rfl, rfl, rfl, by decide +kernel, rfl, by decide +kernel, by decide +kernel⟩
def b_check_ratio (r : RX) : dS := sIf (dNot (dTst (dCall 1 sm_is_ratio (aCons (dVar 0) (aNil))))) (sRaise1 "InvalidRatio" "given" (dVar 0) r) ((fun k ρ T => k.nx ρ T))
def se_check_ratio : SemX := semX ["value"] b_check_ratio
theorem ex_check_ratio (r : RK) (a0 : SV) (T : Tk) (k : KD) : se_check_ratio r [a0] T k = b_check_ratio (fun e _ T => r e T) { nx := fun _ T => k .non T, rt := k, bk := fun _ _ => False, ct := fun _ _ => False } [some a0] T := rfl
abbrev st_quotient_place : Stmt := topS 48
theorem sc_quotient_place : FnScope ["number", "other", "product"] ["number", "other"] (defScope st_quotient_place) := ⟨rfl, rfl, rfl, by decide +kernel, rfl, by decide +kernel, by decide +kernel⟩
def b_quotient_place : dS := sSeq (sIf (dTst (dOp (oF fEq) (dVar 1) (dC k_ZERO))) (sRet (dC k_FAR)) ((fun k ρ T => k.nx ρ T))) (sSeq (sAsg (dCall 2 sm_times (aCons (dVar 0) (aCons (dCall 1 sm_turned_over (aCons (dVar 1) (aNil))) (aNil)))) (gN 2)) (sRet (dCall 1 sm_lowest (aCons (dTup (aCons (dOp (oF fIx) (dVar 2) (dC (.int 0))) (aCons (dOp (oF fIx) (dVar 2) (dC (.int 1))) (aCons (dCall 1 sm_square_size (aCons (dVar 1) (aNil))) (aNil))))) (aNil)))))
def sm_quotient_place : Sem := semOf ["number", "other", "product"] b_quotient_place
theorem e_quotient_place (a0 a1 : SV) (T : Tk) (k : KD) : sm_quotient_place [a0, a1] T k = b_quotient_place { nx := fun _ T => k .non T, rt := k, bk := fun _ _ => False, ct := fun _ _ => False } [some a0, some a1, none] T := rfl
abbrev st_real_place : Stmt := topS 49
theorem sc_real_place : FnScope ["number", "below"] ["number", "below"] (defScope st_real_place) := ⟨rfl, rfl, rfl, by decide +kernel, rfl, by decide +kernel, by decide +kernel⟩
def b_real_place : dS := sRet (dCall 1 sm_lowest (aCons (dTup (aCons (dOp (oF fIx) (dVar 0) (dC (.int 0))) (aCons (dOp (oF fIx) (dVar 0) (dC (.int 1))) (aCons (dVar 1) (aNil))))) (aNil)))
def sm_real_place : Sem := semOf ["number", "below"] b_real_place
theorem e_real_place (a0 a1 : SV) (T : Tk) (k : KD) : sm_real_place [a0, a1] T k = b_real_place { nx := fun _ T => k .non T, rt := k, bk := fun _ _ => False, ct := fun _ _ => False } [some a0, some a1] T := rfl
abbrev st_place_of : Stmt := topS 50
theorem sc_place_of : FnScope ["number", "other"] ["number", "other"] (defScope st_place_of) := ⟨rfl, rfl, rfl, by decide +kernel, rfl, by decide +kernel, by decide +kernel⟩
def b_place_of (r : RX) : dS := sSeq (sExpr (dCallX 1 se_check_complex r (aCons (dVar 0) (aNil)))) (sSeq (sExpr (dCallX 1 se_check_complex r (aCons (dVar 1) (aNil)))) (sSeq (sIf (dAnd (dTst (dOp (oF fEq) (dVar 0) (dC k_ZERO))) (dTst (dOp (oF fEq) (dVar 1) (dC k_ZERO)))) (sRaise0 "NoPlace" r) ((fun k ρ T => k.nx ρ T))) (sRet (dCall 2 sm_quotient_place (aCons (dVar 0) (aCons (dVar 1) (aNil)))))))
def se_place_of : SemX := semX ["number", "other"] b_place_of
theorem ex_place_of (r : RK) (a0 a1 : SV) (T : Tk) (k : KD) : se_place_of r [a0, a1] T k = b_place_of (fun e _ T => r e T) { nx := fun _ T => k .non T, rt := k, bk := fun _ _ => False, ct := fun _ _ => False } [some a0, some a1] T := rfl
abbrev st_sum_of : Stmt := topS 51
theorem sc_sum_of : FnScope ["place", "other", "p", "s", "r", "u", "v", "w"] ["place", "other"] (defScope st_sum_of) := ⟨rfl, rfl, rfl, by decide +kernel, rfl, by decide +kernel, by decide +kernel⟩
def b_sum_of (r : RX) : dS := sSeq (sExpr (dCallX 1 se_check_ratio r (aCons (dVar 0) (aNil)))) (sSeq (sExpr (dCallX 1 se_check_ratio r (aCons (dVar 1) (aNil)))) (sSeq (sAsg (dTup (aCons (dVar 0) (aCons (dVar 1) (aNil)))) (gTL 2 (gsCons (gTL 3 (gsCons (gN 2) (gsCons (gN 3) (gsCons (gN 4) (gsNil))))) (gsCons (gTL 3 (gsCons (gN 5) (gsCons (gN 6) (gsCons (gN 7) (gsNil))))) (gsNil))))) (sRet (dCall 1 sm_lowest (aCons (dTup (aCons (dOp (oF fAdd) (dOp (oF fMul) (dVar 2) (dVar 7)) (dOp (oF fMul) (dVar 5) (dVar 4))) (aCons (dOp (oF fAdd) (dOp (oF fMul) (dVar 3) (dVar 7)) (dOp (oF fMul) (dVar 6) (dVar 4))) (aCons (dOp (oF fMul) (dVar 4) (dVar 7)) (aNil))))) (aNil))))))
def se_sum_of : SemX := semX ["place", "other", "p", "s", "r", "u", "v", "w"] b_sum_of
theorem ex_sum_of (r : RK) (a0 a1 : SV) (T : Tk) (k : KD) : se_sum_of r [a0, a1] T k = b_sum_of (fun e _ T => r e T) { nx := fun _ T => k .non T, rt := k, bk := fun _ _ => False, ct := fun _ _ => False } [some a0, some a1, none, none, none, none, none, none] T := rfl
abbrev st_difference_of : Stmt := topS 52
theorem sc_difference_of : FnScope ["place", "other", "p", "s", "r", "u", "v", "w"] ["place", "other"] (defScope st_difference_of) := ⟨rfl, rfl, rfl, by decide +kernel, rfl, by decide +kernel, by decide +kernel⟩
def b_difference_of (r : RX) : dS := sSeq (sExpr (dCallX 1 se_check_ratio r (aCons (dVar 0) (aNil)))) (sSeq (sExpr (dCallX 1 se_check_ratio r (aCons (dVar 1) (aNil)))) (sSeq (sAsg (dTup (aCons (dVar 0) (aCons (dVar 1) (aNil)))) (gTL 2 (gsCons (gTL 3 (gsCons (gN 2) (gsCons (gN 3) (gsCons (gN 4) (gsNil))))) (gsCons (gTL 3 (gsCons (gN 5) (gsCons (gN 6) (gsCons (gN 7) (gsNil))))) (gsNil))))) (sRet (dCall 1 sm_lowest (aCons (dTup (aCons (dOp (oF fSub) (dOp (oF fMul) (dVar 2) (dVar 7)) (dOp (oF fMul) (dVar 5) (dVar 4))) (aCons (dOp (oF fSub) (dOp (oF fMul) (dVar 3) (dVar 7)) (dOp (oF fMul) (dVar 6) (dVar 4))) (aCons (dOp (oF fMul) (dVar 4) (dVar 7)) (aNil))))) (aNil))))))
def se_difference_of : SemX := semX ["place", "other", "p", "s", "r", "u", "v", "w"] b_difference_of
theorem ex_difference_of (r : RK) (a0 a1 : SV) (T : Tk) (k : KD) : se_difference_of r [a0, a1] T k = b_difference_of (fun e _ T => r e T) { nx := fun _ T => k .non T, rt := k, bk := fun _ _ => False, ct := fun _ _ => False } [some a0, some a1, none, none, none, none, none, none] T := rfl
abbrev st_product_of : Stmt := topS 53
theorem sc_product_of : FnScope ["place", "other"] ["place", "other"] (defScope st_product_of) := ⟨rfl, rfl, rfl, by decide +kernel, rfl, by decide +kernel, by decide +kernel⟩
def b_product_of (r : RX) : dS := sSeq (sExpr (dCallX 1 se_check_ratio r (aCons (dVar 0) (aNil)))) (sSeq (sExpr (dCallX 1 se_check_ratio r (aCons (dVar 1) (aNil)))) (sRet (dCall 2 sm_real_place (aCons (dCall 2 sm_times (aCons (dSlQ (dVar 0) (fun _ T k => k none T) (pSome (dC (.int 2)))) (aCons (dSlQ (dVar 1) (fun _ T k => k none T) (pSome (dC (.int 2)))) (aNil)))) (aCons (dOp (oF fMul) (dOp (oF fIx) (dVar 0) (dC (.int 2))) (dOp (oF fIx) (dVar 1) (dC (.int 2)))) (aNil))))))
def se_product_of : SemX := semX ["place", "other"] b_product_of
theorem ex_product_of (r : RK) (a0 a1 : SV) (T : Tk) (k : KD) : se_product_of r [a0, a1] T k = b_product_of (fun e _ T => r e T) { nx := fun _ T => k .non T, rt := k, bk := fun _ _ => False, ct := fun _ _ => False } [some a0, some a1] T := rfl
abbrev st_quotient_of : Stmt := topS 54
theorem sc_quotient_of : FnScope ["place", "other"] ["place", "other"] (defScope st_quotient_of) := ⟨rfl, rfl, rfl, by decide +kernel, rfl, by decide +kernel, by decide +kernel⟩
def b_quotient_of (r : RX) : dS := sSeq (sExpr (dCallX 1 se_check_ratio r (aCons (dVar 0) (aNil)))) (sSeq (sExpr (dCallX 1 se_check_ratio r (aCons (dVar 1) (aNil)))) (sSeq (sIf (dTst (dOp (oF fEq) (dVar 1) (dC k_NOUGHT))) (sRaise0 "NoPlace" r) ((fun k ρ T => k.nx ρ T))) (sRet (dCall 2 sm_quotient_place (aCons (dCall 2 sm_times (aCons (dSlQ (dVar 0) (fun _ T k => k none T) (pSome (dC (.int 2)))) (aCons (dTup (aCons (dOp (oF fIx) (dVar 1) (dC (.int 2))) (aCons (dC (.int 0)) (aNil)))) (aNil)))) (aCons (dCall 2 sm_times (aCons (dSlQ (dVar 1) (fun _ T k => k none T) (pSome (dC (.int 2)))) (aCons (dTup (aCons (dOp (oF fIx) (dVar 0) (dC (.int 2))) (aCons (dC (.int 0)) (aNil)))) (aNil)))) (aNil)))))))
def se_quotient_of : SemX := semX ["place", "other"] b_quotient_of
theorem ex_quotient_of (r : RK) (a0 a1 : SV) (T : Tk) (k : KD) : se_quotient_of r [a0, a1] T k = b_quotient_of (fun e _ T => r e T) { nx := fun _ T => k .non T, rt := k, bk := fun _ _ => False, ct := fun _ _ => False } [some a0, some a1] T := rfl
abbrev st_squared_distance : Stmt := topS 55
theorem sc_squared_distance : FnScope ["place", "other", "p", "s", "r", "u", "v", "w", "across", "along"] ["place", "other"] (defScope st_squared_distance) := ⟨rfl, rfl, rfl, by decide +kernel, rfl, by decide +kernel, by decide +kernel⟩
def b_squared_distance : dS := sSeq (sAsg (dTup (aCons (dVar 0) (aCons (dVar 1) (aNil)))) (gTL 2 (gsCons (gTL 3 (gsCons (gN 2) (gsCons (gN 3) (gsCons (gN 4) (gsNil))))) (gsCons (gTL 3 (gsCons (gN 5) (gsCons (gN 6) (gsCons (gN 7) (gsNil))))) (gsNil))))) (sSeq (sPar 8 9 (aCons (dOp (oF fSub) (dOp (oF fMul) (dVar 2) (dVar 7)) (dOp (oF fMul) (dVar 5) (dVar 4))) (aCons (dOp (oF fSub) (dOp (oF fMul) (dVar 3) (dVar 7)) (dOp (oF fMul) (dVar 6) (dVar 4))) (aNil)))) (sRet (dCall 2 sm_fraction (aCons (dOp (oF fAdd) (dOp (oF fMul) (dVar 8) (dVar 8)) (dOp (oF fMul) (dVar 9) (dVar 9))) (aCons (dOp (oF fMul) (dOp (oF fMul) (dOp (oF fMul) (dVar 4) (dVar 4)) (dVar 7)) (dVar 7)) (aNil))))))
def sm_squared_distance : Sem := semOf ["place", "other", "p", "s", "r", "u", "v", "w", "across", "along"] b_squared_distance
theorem e_squared_distance (a0 a1 : SV) (T : Tk) (k : KD) : sm_squared_distance [a0, a1] T k = b_squared_distance { nx := fun _ T => k .non T, rt := k, bk := fun _ _ => False, ct := fun _ _ => False } [some a0, some a1, none, none, none, none, none, none, none, none] T := rfl
abbrev st_distance_of : Stmt := topS 56
theorem sc_distance_of : FnScope ["place", "other"] ["place", "other"] (defScope st_distance_of) := ⟨rfl, rfl, rfl, by decide +kernel, rfl, by decide +kernel, by decide +kernel⟩
def b_distance_of (r : RX) : dS := sSeq (sExpr (dCallX 1 se_check_ratio r (aCons (dVar 0) (aNil)))) (sSeq (sExpr (dCallX 1 se_check_ratio r (aCons (dVar 1) (aNil)))) (sRet (dCall 2 sm_squared_distance (aCons (dVar 0) (aCons (dVar 1) (aNil))))))
def se_distance_of : SemX := semX ["place", "other"] b_distance_of
theorem ex_distance_of (r : RK) (a0 a1 : SV) (T : Tk) (k : KD) : se_distance_of r [a0, a1] T k = b_distance_of (fun e _ T => r e T) { nx := fun _ T => k .non T, rt := k, bk := fun _ _ => False, ct := fun _ _ => False } [some a0, some a1] T := rfl
abbrev st__law_tank : Stmt := topS 58
theorem sc__law_tank : FnScope ["_law_script", "_law_spot", "_law_stir", "_law_cell", "_law_own", "_law_rest"] ["_law_script", "_law_spot"] (defScope st__law_tank) := ⟨rfl, rfl, rfl, by decide +kernel, rfl, by decide +kernel, by decide +kernel⟩
def b__law_tank : En → Tk → KD → Prop := fun ρ T k => (sAsg (dOp (oF fAdd) (dC (.int 90011)) (dOp (oF fMul) (dC (.int 2003)) (dVar 1))) (gN 2)) { no0 with nx := fun ρ1 T1 => (fun ρ T k => (sForI (iQ (dSlQ (dVar 0) (fun _ T k => k none T) (pSome (dC (.int 9))))) (gN 3) (sAsg (dOp (oF fMod) (dBlt (oG fInt) (aCons (dOp (oF fAdd) (dOp (oF fAdd) (dOp (oF fMul) (dVar 2) (dC (.int 51977))) (dOp (oF fMod) (dBlt (oG fInt) (aCons (dVar 3) (aNil))) (dC (.int 2147483629)))) (dC (.int 37))) (aNil))) (dC (.int 2147483629))) (gN 2))) { no0 with nx := fun ρ1 T1 => (fun ρ T k => (sAsg (dIf (dTst (dOp (oF fLt) (dVar 1) (dBlt (oG fLen) (aCons (dVar 0) (aNil))))) (dBlt (oG fInt) (aCons (dOp (oF fIx) (dVar 0) (dVar 1)) (aNil))) (dVar 2)) (gN 4)) { no0 with nx := fun ρ1 T1 => (fun ρ T k => (sAsg (dIf (dOr (dTst (dOp (oF fLt) (dVar 4) (dC (.int 0)))) (dTst (dOp (oF fGe) (dVar 4) (dOp (oF fPow) (dC (.int 10)) (dC (.int 18)))))) (dBlt (oG (fI1 iAbs)) (aCons (dVar 4) (aNil))) (dC (.int 0))) (gN 5)) { no0 with nx := fun ρ1 T1 => (fun ρ T k => (aCons (dVar 5) (aCons (dOp (oF fMod) (dBlt (oG fInt) (aCons (dOp (oF fAdd) (dOp (oF fAdd) (dOp (oF fMul) (dVar 2) (dC (.int 33013))) (dOp (oF fMul) (dOp (oF fMod) (dBlt (oG fInt) (aCons (dVar 4) (aNil))) (dC (.int 2147483629))) (dC (.int 7001)))) (dC (.int 3))) (aNil))) (dC (.int 2147483629))) (aCons (dC (.int 0)) (aNil)))) ρ T fun as T1 => match vals? as with | some ds => ds.length ≤ 1000000 ∧ k (.lst ds) T1 | none => False) ρ1 T1 k } ρ T) ρ1 T1 k } ρ T) ρ1 T1 k } ρ T) ρ1 T1 k } ρ T
def sm__law_tank : Sem := semO ["_law_script", "_law_spot", "_law_stir", "_law_cell", "_law_own", "_law_rest"] b__law_tank
theorem e__law_tank (a0 a1 : SV) (T : Tk) (k : KD) : sm__law_tank [a0, a1] T k = b__law_tank [some a0, some a1, none, none, none, none] T k := rfl
abbrev st__law_draw : Stmt := topS 59
theorem sc__law_draw : FnScope ["_law_tank_here", "_law_many", "_law_figure", "_law_pace"] ["_law_tank_here", "_law_many"] (defScope st__law_draw) := ⟨rfl, rfl, rfl, by decide +kernel, rfl, by decide +kernel, by decide +kernel⟩
def b__law_draw : dS := sSeq (sIf (dTst (dOp (oF fGt) (dTix 0 (dC (.int 0))) (dC (.int 0)))) (sSeq (sAsg (dBlt (oG fDivmod) (aCons (dTix 0 (dC (.int 0))) (aCons (dVar 1) (aNil)))) (gTL 2 (gsCons (gTs 0 (dC (.int 0))) (gsCons (gN 2) (gsNil))))) (sRet (dVar 2))) ((fun k ρ T => k.nx ρ T))) (sSeq (sAsg (dOp (oF fAdd) (dTix 0 (dC (.int 2))) (dC (.int 1))) (gTs 0 (dC (.int 2)))) (sSeq (sAsg (dOp (oF fAdd) (dOp (oF fMod) (dBlt (oG fInt) (aCons (dTix 0 (dC (.int 1))) (aNil))) (dC (.int 9001))) (dC (.int 30011))) (gN 3)) (sSeq (sAsg (dOp (oF fMod) (dBlt (oG fInt) (aCons (dOp (oF fAdd) (dOp (oF fAdd) (dOp (oF fMul) (dTix 0 (dC (.int 1))) (dVar 3)) (dOp (oF fMul) (dC (.int 70001)) (dTix 0 (dC (.int 2))))) (dC (.int 19))) (aNil))) (dC (.int 2147483629))) (gTs 0 (dC (.int 1)))) (sRet (dOp (oF fMod) (dBlt (oG fInt) (aCons (dOp (oF fDiv) (dTix 0 (dC (.int 1))) (dC (.int 53))) (aNil))) (dVar 1))))))
def sm__law_draw : Sem := semOf ["_law_tank_here", "_law_many", "_law_figure", "_law_pace"] b__law_draw
theorem e__law_draw (a0 a1 : SV) (T : Tk) (k : KD) : sm__law_draw [a0, a1] T k = b__law_draw { nx := fun _ T => k .non T, rt := k, bk := fun _ _ => False, ct := fun _ _ => False } [some a0, some a1, none, none] T := rfl
abbrev st__law_pick : Stmt := topS 60
theorem sc__law_pick : FnScope ["_law_tank_here", "_law_some"] ["_law_tank_here", "_law_some"] (defScope st__law_pick) := ⟨rfl, rfl, rfl, by decide +kernel, rfl, by decide +kernel, by decide +kernel⟩
def b__law_pick : dS := sRet (dOp (oF fIx) (dVar 1) (dCall 2 sm__law_draw (aTank 0 (aCons (dBlt (oG fLen) (aCons (dVar 1) (aNil))) (aNil)))))
def sm__law_pick : Sem := semOf ["_law_tank_here", "_law_some"] b__law_pick
theorem e__law_pick (a0 a1 : SV) (T : Tk) (k : KD) : sm__law_pick [a0, a1] T k = b__law_pick { nx := fun _ T => k .non T, rt := k, bk := fun _ _ => False, ct := fun _ _ => False } [some a0, some a1] T := rfl
abbrev st__law_rounds : Stmt := topS 61
theorem sc__law_rounds : FnScope ["_law_script"] ["_law_script"] (defScope st__law_rounds) := ⟨rfl, rfl, rfl, by decide +kernel, rfl, by decide +kernel, by decide +kernel⟩
def b__law_rounds : dS := sRet (dBlt (oG (fI2 iMax)) (aCons (dC (.int 2)) (aCons (dBlt (oG (fI2 iMin)) (aCons (dBlt (oG fLen) (aCons (dVar 0) (aNil))) (aCons (dC (.int 3)) (aNil)))) (aNil))))
def sm__law_rounds : Sem := semOf ["_law_script"] b__law_rounds
theorem e__law_rounds (a0 : SV) (T : Tk) (k : KD) : sm__law_rounds [a0] T k = b__law_rounds { nx := fun _ T => k .non T, rt := k, bk := fun _ _ => False, ct := fun _ _ => False } [some a0] T := rfl
abbrev st__law_number : Stmt := topS 62
theorem sc__law_number : FnScope ["_law_tank_here", "_law_size"] ["_law_tank_here"] (defScope st__law_number) := ⟨rfl, rfl, rfl, by decide +kernel, rfl, by decide +kernel, by decide +kernel⟩
def b__law_number : dS := sSeq (sAsg (dCall 2 sm__law_pick (aTank 0 (aCons (dTup (aCons (dC (.int 1)) (aCons (dC (.int 2)) (aCons (dC (.int 3)) (aCons (dC (.int 9)) (aCons (dC (.int 9)) (aCons (dC (.int 99)) (aCons (dC (.int 0)) (aNil))))))))) (aNil)))) (gN 1)) (sSeq (sIf (dTst (dOp (oF fGt) (dVar 1) (dC (.int 0)))) (sRet (dOp (oF fSub) (dCall 2 sm__law_draw (aTank 0 (aCons (dOp (oF fAdd) (dOp (oF fMul) (dC (.int 2)) (dVar 1)) (dC (.int 1))) (aNil)))) (dVar 1))) ((fun k ρ T => k.nx ρ T))) (sRet (dOp (oF fMul) (dOp (oF fAdd) (dOp (oF fMul) (dCall 2 sm__law_draw (aTank 0 (aCons (dC (.int 1000003)) (aNil)))) (dC (.int 1000003))) (dCall 2 sm__law_draw (aTank 0 (aCons (dC (.int 1000003)) (aNil))))) (dOp (oF fSub) (dC (.int 1)) (dOp (oF fMul) (dC (.int 2)) (dCall 2 sm__law_draw (aTank 0 (aCons (dC (.int 2)) (aNil)))))))))
def sm__law_number : Sem := semOf ["_law_tank_here", "_law_size"] b__law_number
theorem e__law_number (a0 : SV) (T : Tk) (k : KD) : sm__law_number [a0] T k = b__law_number { nx := fun _ T => k .non T, rt := k, bk := fun _ _ => False, ct := fun _ _ => False } [some a0, none] T := rfl
abbrev st__law_least : Stmt := topS 63
theorem sc__law_least : FnScope ["_law_numbers", "_law_part", "_law_number_here", "_law_left", "_law_right_here"] ["_law_numbers"] (defScope st__law_least) := ⟨rfl, rfl, rfl, by decide +kernel, rfl, by decide +kernel, by decide +kernel⟩
def b__law_least : dS := sSeq (sAsg (dC (.int 0)) (gN 1)) (sSeq (sForI (iQ (dVar 0)) (gN 2) (sSeq (sPar 3 4 (aCons (dVar 1) (aCons (dBlt (oG (fI1 iAbs)) (aCons (dVar 2) (aNil))) (aNil)))) (sSeq (sWhile (dTst (dOp (oF fGt) (dVar 4) (dC (.int 0)))) (sPar 3 4 (aCons (dVar 4) (aCons (dOp (oF fMod) (dBlt (oG fInt) (aCons (dVar 3) (aNil))) (dVar 4)) (aNil))))) (sAsg (dVar 3) (gN 1))))) (sRet (dBlt (oG fTuple) (aCons (dLc [2] (iQ (dVar 0)) (cN 2) dYes (dOp (oF fDiv) (dVar 2) (dVar 1))) (aNil)))))
def sm__law_least : Sem := semOf ["_law_numbers", "_law_part", "_law_number_here", "_law_left", "_law_right_here"] b__law_least
theorem e__law_least (a0 : SV) (T : Tk) (k : KD) : sm__law_least [a0] T k = b__law_least { nx := fun _ T => k .non T, rt := k, bk := fun _ _ => False, ct := fun _ _ => False } [some a0, none, none, none, none] T := rfl
abbrev st__law_complex : Stmt := topS 64
theorem sc__law_complex : FnScope ["_law_tank_here"] ["_law_tank_here"] (defScope st__law_complex) := ⟨rfl, rfl, rfl, by decide +kernel, rfl, by decide +kernel, by decide +kernel⟩
def b__law_complex : dS := sRet (dTup (aCons (dCall 1 sm__law_number (aTank 0 (aNil))) (aCons (dCall 1 sm__law_number (aTank 0 (aNil))) (aNil))))
def sm__law_complex : Sem := semOf ["_law_tank_here"] b__law_complex
theorem e__law_complex (a0 : SV) (T : Tk) (k : KD) : sm__law_complex [a0] T k = b__law_complex { nx := fun _ T => k .non T, rt := k, bk := fun _ _ => False, ct := fun _ _ => False } [some a0] T := rfl
abbrev st__law_place : Stmt := topS 65
theorem sc__law_place : FnScope ["_law_tank_here", "_law_size", "_law_down"] ["_law_tank_here"] (defScope st__law_place) := ⟨rfl, rfl, rfl, by decide +kernel, rfl, by decide +kernel, by decide +kernel⟩
def b__law_place : dS := sSeq (sAsg (dCall 2 sm__law_pick (aTank 0 (aCons (dTup (aCons (dC (.int 1)) (aCons (dC (.int 1)) (aCons (dC (.int 2)) (aCons (dC (.int 3)) (aCons (dC (.int 9)) (aCons (dC (.int 99)) (aCons (dC (.int 0)) (aNil))))))))) (aNil)))) (gN 1)) (sSeq (sAsg (dOp (oF fAdd) (dC (.int 1)) (dIf (dTst (dOp (oF fGt) (dVar 1) (dC (.int 0)))) (dCall 2 sm__law_draw (aTank 0 (aCons (dVar 1) (aNil)))) (dOp (oF fAdd) (dOp (oF fMul) (dCall 2 sm__law_draw (aTank 0 (aCons (dC (.int 1000003)) (aNil)))) (dC (.int 1000003))) (dCall 2 sm__law_draw (aTank 0 (aCons (dC (.int 1000003)) (aNil))))))) (gN 2)) (sRet (dCall 1 sm__law_least (aCons (dTup (aCons (dCall 1 sm__law_number (aTank 0 (aNil))) (aCons (dCall 1 sm__law_number (aTank 0 (aNil))) (aCons (dVar 2) (aNil))))) (aNil)))))
def sm__law_place : Sem := semOf ["_law_tank_here", "_law_size", "_law_down"] b__law_place
theorem e__law_place (a0 : SV) (T : Tk) (k : KD) : sm__law_place [a0] T k = b__law_place { nx := fun _ T => k .non T, rt := k, bk := fun _ _ => False, ct := fun _ _ => False } [some a0, none, none] T := rfl
abbrev st__law_run_more : Stmt := topS 67
theorem sc__law_run_more : FnScope ["_law_way", "_law_one", "_law_two"] ["_law_way", "_law_one", "_law_two"] (defScope st__law_run_more) := ⟨rfl, rfl, rfl, by decide +kernel, rfl, by decide +kernel, by decide +kernel⟩
def b__law_run_more (r : RX) : dS := sSeq (sIf (dTst (dOp (oF fEq) (dVar 0) (dC (.str "place")))) (sRet (dCallX 2 se_place_of r (aCons (dVar 1) (aCons (dVar 2) (aNil))))) ((fun k ρ T => k.nx ρ T))) (sSeq (sIf (dTst (dOp (oF fEq) (dVar 0) (dC (.str "sum")))) (sRet (dCallX 2 se_sum_of r (aCons (dVar 1) (aCons (dVar 2) (aNil))))) ((fun k ρ T => k.nx ρ T))) (sSeq (sIf (dTst (dOp (oF fEq) (dVar 0) (dC (.str "difference")))) (sRet (dCallX 2 se_difference_of r (aCons (dVar 1) (aCons (dVar 2) (aNil))))) ((fun k ρ T => k.nx ρ T))) (sSeq (sIf (dTst (dOp (oF fEq) (dVar 0) (dC (.str "times")))) (sRet (dCallX 2 se_product_of r (aCons (dVar 1) (aCons (dVar 2) (aNil))))) ((fun k ρ T => k.nx ρ T))) (sRet (dIf (dTst (dOp (oF fEq) (dVar 0) (dC (.str "over")))) (dCallX 2 se_quotient_of r (aCons (dVar 1) (aCons (dVar 2) (aNil)))) (dCallX 2 se_distance_of r (aCons (dVar 1) (aCons (dVar 2) (aNil)))))))))
def se__law_run_more : SemX := semX ["_law_way", "_law_one", "_law_two"] b__law_run_more
theorem ex__law_run_more (r : RK) (a0 a1 a2 : SV) (T : Tk) (k : KD) : se__law_run_more r [a0, a1, a2] T k = b__law_run_more (fun e _ T => r e T) { nx := fun _ T => k .non T, rt := k, bk := fun _ _ => False, ct := fun _ _ => False } [some a0, some a1, some a2] T := rfl
abbrev st__law_run : Stmt := topS 66
theorem sc__law_run : FnScope ["_law_way", "_law_one", "_law_two"] ["_law_way", "_law_one", "_law_two"] (defScope st__law_run) := ⟨rfl, rfl, rfl, by decide +kernel, rfl, by decide +kernel, by decide +kernel⟩
def b__law_run (r : RX) : dS := sSeq (sIf (dTst (dOp (oF fEq) (dVar 0) (dC (.str "added")))) (sRet (dCallX 2 se_added r (aCons (dVar 1) (aCons (dVar 2) (aNil))))) ((fun k ρ T => k.nx ρ T))) (sSeq (sIf (dTst (dOp (oF fEq) (dVar 0) (dC (.str "subtracted")))) (sRet (dCallX 2 se_subtracted r (aCons (dVar 1) (aCons (dVar 2) (aNil))))) ((fun k ρ T => k.nx ρ T))) (sSeq (sIf (dTst (dOp (oF fEq) (dVar 0) (dC (.str "product")))) (sRet (dCallX 2 se_product r (aCons (dVar 1) (aCons (dVar 2) (aNil))))) ((fun k ρ T => k.nx ρ T))) (sSeq (sIf (dTst (dOp (oF fEq) (dVar 0) (dC (.str "quotient")))) (sRet (dCallX 2 se_quotient r (aCons (dVar 1) (aCons (dVar 2) (aNil))))) ((fun k ρ T => k.nx ρ T))) (sSeq (sIf (dTst (dOp (oF fEq) (dVar 0) (dC (.str "conjugate")))) (sRet (dCallX 1 se_conjugate r (aCons (dVar 1) (aNil)))) ((fun k ρ T => k.nx ρ T))) (sSeq (sIf (dTst (dOp (oF fEq) (dVar 0) (dC (.str "norm")))) (sRet (dCallX 1 se_norm r (aCons (dVar 1) (aNil)))) ((fun k ρ T => k.nx ρ T))) (sSeq (sIf (dTst (dOp (oF fEq) (dVar 0) (dC (.str "quarter")))) (sRet (dCallX 1 se_quarter_form r (aCons (dVar 1) (aNil)))) ((fun k ρ T => k.nx ρ T))) (sSeq (sIf (dTst (dOp (oF fEq) (dVar 0) (dC (.str "root")))) (sRet (dCallX 1 se_root_of r (aCons (dVar 1) (aNil)))) ((fun k ρ T => k.nx ρ T))) (sRet (dIf (dTst (dOp (oF fEq) (dVar 0) (dC (.str "common")))) (dCallX 1 se_common_divisor r (aCons (dVar 1) (aNil))) (dCallX 3 se__law_run_more r (aCons (dVar 0) (aCons (dVar 1) (aCons (dVar 2) (aNil))))))))))))))
def se__law_run : SemX := semX ["_law_way", "_law_one", "_law_two"] b__law_run
theorem ex__law_run (r : RK) (a0 a1 a2 : SV) (T : Tk) (k : KD) : se__law_run r [a0, a1, a2] T k = b__law_run (fun e _ T => r e T) { nx := fun _ T => k .non T, rt := k, bk := fun _ _ => False, ct := fun _ _ => False } [some a0, some a1, some a2] T := rfl
abbrev st__law_met : Stmt := topS 68
theorem sc__law_met : FnScope ["_law_way", "_law_one", "_law_two", "e", "_law_sorts"] ["_law_way", "_law_one", "_law_two"] (defScope st__law_met) := ⟨rfl, rfl, rfl, by decide +kernel, rfl, by decide +kernel, by decide +kernel⟩
def b__law_met : dS := sSeq (sTryA mt_ArmError 3 (fun r => sExpr (dCallX 3 se__law_run r (aCons (dVar 0) (aCons (dVar 1) (aCons (dVar 2) (aNil)))))) (fun e a d => sSeq (sAsg (dLst (aCons (dIsE 3 a d (is_InvalidComplex e.nm)) (aCons (dIsE 3 a d (is_InvalidNumbers e.nm)) (aCons (dIsE 3 a d (is_InvalidRatio e.nm)) (aCons (dIsE 3 a d (is_NoPlace e.nm)) (aCons (dIsE 3 a d (is_InvalidPlace e.nm)) (aCons (dIsE 3 a d (is_InvalidNumber e.nm)) (aNil)))))))) (gN 4)) (sSeq (sIf (dOr (dTst (dOp (oF fNe) (dMt (oF fCntT) (dVar 4) (dC (.bl true))) (dC (.int 1)))) (dOr (dNot (dTst (dIsE 3 a d (is_ValueError e.nm)))) (dOr (dTst (dOp (oF fIx) (dVar 4) (dC (.int 4)))) (dTst (dOp (oF fIx) (dVar 4) (dC (.int 5))))))) (sRet (dLst (aCons (dC (.str "odd")) (aCons (dC .non) (aNil))))) ((fun k ρ T => k.nx ρ T))) (sSeq (sIf (dTst (dOp (oF fIx) (dVar 4) (dC (.int 3)))) (sRet (dLst (aCons (dC (.str "none")) (aCons (dC .non) (aNil))))) ((fun k ρ T => k.nx ρ T))) (sRet (dLst (aCons (dOp (oF fIx) (dTup (aCons (dC (.str "complex")) (aCons (dC (.str "numbers")) (aCons (dC (.str "ratio")) (aNil))))) (dMt (oF fIdxT) (dVar 4) (dC (.bl true)))) (aCons (dGivE "given" 3 a d (gv_given e.nm)) (aNil))))))))) (sRet (dLst (aCons (dC (.str "let")) (aCons (dC .non) (aNil)))))
def sm__law_met : Sem := semOf ["_law_way", "_law_one", "_law_two", "e", "_law_sorts"] b__law_met
theorem e__law_met (a0 a1 a2 : SV) (T : Tk) (k : KD) : sm__law_met [a0, a1, a2] T k = b__law_met { nx := fun _ T => k .non T, rt := k, bk := fun _ _ => False, ct := fun _ _ => False } [some a0, some a1, some a2, none, none] T := rfl
abbrev st__law_odd : Stmt := topS 69
theorem sc__law_odd : FnScope ["_law_tank_here"] ["_law_tank_here"] (defScope st__law_odd) := ⟨rfl, rfl, rfl, by decide +kernel, rfl, by decide +kernel, by decide +kernel⟩
def b__law_odd : dS := sRet (dCall 2 sm__law_pick (aTank 0 (aCons (dTup (aCons (dC .non) (aCons (dC (.int 3)) (aCons (dC (.bl true)) (aCons (dC (.str "12")) (aCons (dC (.str "")) (aCons (dTup (aNil)) (aCons (dTup (aCons (dC (.int 1)) (aNil))) (aCons (dLst (aCons (dC (.int 1)) (aCons (dC (.int 2)) (aNil)))) (aCons (dTup (aCons (dC (.int 1)) (aCons (dC (.int 2)) (aCons (dC (.int 3)) (aCons (dC (.int 4)) (aNil)))))) (aCons (dTup (aCons (dC (.bl true)) (aCons (dC (.int 0)) (aNil)))) (aCons (dTup (aCons (dC (.int 0)) (aCons (dC .non) (aNil)))) (aCons (dTup (aCons (dC (.str "1")) (aCons (dC (.int 2)) (aNil)))) (aCons (dTup (aCons (dC (.int 2)) (aCons (dC (.int 4)) (aCons (dC (.int 2)) (aNil))))) (aCons (dTup (aCons (dC (.int 0)) (aCons (dC (.int 0)) (aCons (dC (.int 0)) (aNil))))) (aCons (dTup (aCons (dC (.int 1)) (aCons (dC (.int 2)) (aCons (dC (.int 0)) (aNil))))) (aCons (dTup (aCons (dC (.int 0)) (aCons (dC (.int 0)) (aCons (dNeg (dC (.int 1))) (aNil))))) (aCons (dTup (aCons (dNeg (dC (.int 1))) (aCons (dC (.int 0)) (aCons (dC (.int 0)) (aNil))))) (aCons (dTup (aCons (dC (.int 3)) (aCons (dC (.int 0)) (aCons (dC (.int 3)) (aNil))))) (aCons (dTup (aCons (dC (.int 0)) (aCons (dC (.int 0)) (aCons (dC (.bl true)) (aNil))))) (aCons (dTup (aCons (dTup (aCons (dC (.int 1)) (aCons (dC (.int 2)) (aNil)))) (aCons (dC (.int 1)) (aNil)))) (aCons (dDct0) (aCons (dLst (aCons (dC (.int 0)) (aCons (dC (.int 0)) (aCons (dC (.int 1)) (aNil))))) (aNil)))))))))))))))))))))))) (aNil))))
def sm__law_odd : Sem := semOf ["_law_tank_here"] b__law_odd
theorem e__law_odd (a0 : SV) (T : Tk) (k : KD) : sm__law_odd [a0] T k = b__law_odd { nx := fun _ T => k .non T, rt := k, bk := fun _ _ => False, ct := fun _ _ => False } [some a0] T := rfl
abbrev st__law_wrong : Stmt := topS 70
theorem sc__law_wrong : FnScope ["_law_tank_here", "_law_row", "_law_turn", "_law_at", "_law_odd_here", "_law_some"] ["_law_tank_here"] (defScope st__law_wrong) := ⟨rfl, rfl, rfl, by decide +kernel, rfl, by decide +kernel, by decide +kernel⟩
def b__law_wrong : dS := sSeq (sAsg (dOp (oF fAdd) (dBlt (oG fTuple) (aCons (dLc [2] (iR1 (aCons (dOp (oF fAdd) (dC (.int 1)) (dCall 2 sm__law_draw (aTank 0 (aCons (dC (.int 7)) (aNil))))) (aNil))) (cN 2) dYes (dCall 1 sm__law_complex (aTank 0 (aNil)))) (aNil))) (dTup (aCons (dTup (aCons (dC (.int 1)) (aCons (dC (.int 2)) (aNil)))) (aNil)))) (gN 1)) (sSeq (sPar 3 4 (aCons (dCall 2 sm__law_draw (aTank 0 (aCons (dBlt (oG fLen) (aCons (dVar 1) (aNil))) (aNil)))) (aCons (dCall 1 sm__law_odd (aTank 0 (aNil))) (aNil)))) (sSeq (sAsg (dTup (aCons (dOp (oF fAdd) (dOp (oF fAdd) (dSlQ (dVar 1) (fun _ T k => k none T) (pSome (dVar 3))) (dTup (aCons (dVar 4) (aNil)))) (dSlQ (dVar 1) (pSome (dOp (oF fAdd) (dVar 3) (dC (.int 1)))) (fun _ T k => k none T))) (aCons (dTup (aNil)) (aCons (dBlt (oG fList) (aCons (dVar 1) (aNil))) (aCons (dOp (oF fMulU) (dTup (aCons (dTup (aCons (dC (.int 0)) (aCons (dC (.int 0)) (aNil)))) (aNil))) (dBlt (oG fLen) (aCons (dVar 1) (aNil)))) (aCons (dOp (oF fAdd) (dVar 1) (dOp (oF fMulU) (dTup (aCons (dTup (aCons (dC (.int 0)) (aCons (dC (.int 0)) (aNil)))) (aNil))) (dOp (oF fSub) (dC (.int 9)) (dBlt (oG fLen) (aCons (dVar 1) (aNil)))))) (aCons (dVar 4) (aCons (dOp (oF fIx) (dVar 1) (dC (.int 0))) (aNil))))))))) (gN 5)) (sRet (dCall 2 sm__law_pick (aTank 0 (aCons (dVar 5) (aNil)))))))
def sm__law_wrong : Sem := semOf ["_law_tank_here", "_law_row", "_law_turn", "_law_at", "_law_odd_here", "_law_some"] b__law_wrong
theorem e__law_wrong (a0 : SV) (T : Tk) (k : KD) : sm__law_wrong [a0] T k = b__law_wrong { nx := fun _ T => k .non T, rt := k, bk := fun _ _ => False, ct := fun _ _ => False } [some a0, none, none, none, none, none] T := rfl
abbrev st__law_zero : Stmt := topS 72
theorem sc__law_zero : FnScope ["_law_place_here"] ["_law_place_here"] (defScope st__law_zero) := ⟨rfl, rfl, rfl, by decide +kernel, rfl, by decide +kernel, by decide +kernel⟩
def b__law_zero : dS := sRet (dIf (dTst (dOp (oF fEq) (dVar 0) (dTup (aCons (dC (.int 0)) (aCons (dC (.int 0)) (aCons (dC (.int 1)) (aNil))))))) (dC (.str "none")) (dC (.str "let")))
def sm__law_zero : Sem := semOf ["_law_place_here"] b__law_zero
theorem e__law_zero (a0 : SV) (T : Tk) (k : KD) : sm__law_zero [a0] T k = b__law_zero { nx := fun _ T => k .non T, rt := k, bk := fun _ _ => False, ct := fun _ _ => False } [some a0] T := rfl
abbrev st__law_cases : Stmt := topS 71
theorem sc__law_cases : FnScope ["_law_tank_here", "_law_one", "_law_two", "_law_odd_here", "_law_other", "_law_here", "_law_there", "_law_far", "_law_wrong_here", "_law_found", "_law_way"] ["_law_tank_here"] (defScope st__law_cases) := ⟨rfl, rfl, rfl, by decide +kernel, rfl, by decide +kernel, by decide +kernel⟩
def b__law_cases : dS := sSeq (sAsg (dTup (aCons (dCall 1 sm__law_complex (aTank 0 (aNil))) (aCons (dCall 1 sm__law_complex (aTank 0 (aNil))) (aCons (dCall 1 sm__law_odd (aTank 0 (aNil))) (aCons (dCall 1 sm__law_odd (aTank 0 (aNil))) (aNil)))))) (gTL 4 (gsCons (gN 1) (gsCons (gN 2) (gsCons (gN 3) (gsCons (gN 4) (gsNil))))))) (sSeq (sAsg (dTup (aCons (dCall 1 sm__law_place (aTank 0 (aNil))) (aCons (dCall 1 sm__law_place (aTank 0 (aNil))) (aCons (dTup (aCons (dC (.int 1)) (aCons (dC (.int 0)) (aCons (dC (.int 0)) (aNil))))) (aCons (dCall 1 sm__law_wrong (aTank 0 (aNil))) (aNil)))))) (gTL 4 (gsCons (gN 5) (gsCons (gN 6) (gsCons (gN 7) (gsCons (gN 8) (gsNil))))))) (sSeq (sAsg (dLst (aCons (dTup (aCons (dC (.str "common")) (aCons (dVar 8) (aCons (dC (.int 0)) (aCons (dC (.str "numbers")) (aCons (dVar 8) (aNil))))))) (aCons (dTup (aCons (dC (.str "common")) (aCons (dTup (aCons (dTup (aCons (dC (.int 0)) (aCons (dC (.int 0)) (aNil)))) (aCons (dTup (aCons (dC (.int 1)) (aCons (dC (.int 0)) (aNil)))) (aNil)))) (aCons (dC (.int 0)) (aCons (dC (.str "let")) (aCons (dC .non) (aNil))))))) (aNil)))) (gN 9)) (sSeq (sForI (iQ (dTup (aCons (dC (.str "added")) (aCons (dC (.str "subtracted")) (aCons (dC (.str "product")) (aCons (dC (.str "quotient")) (aCons (dC (.str "place")) (aNil)))))))) (gN 10) (sAsg (dOp (oF fAdd) (dVar 9) (dLst (aCons (dTup (aCons (dVar 10) (aCons (dVar 3) (aCons (dVar 4) (aCons (dC (.str "complex")) (aCons (dVar 3) (aNil))))))) (aCons (dTup (aCons (dVar 10) (aCons (dVar 1) (aCons (dVar 3) (aCons (dC (.str "complex")) (aCons (dVar 3) (aNil))))))) (aCons (dTup (aCons (dVar 10) (aCons (dTup (aCons (dC (.int 1)) (aCons (dC (.int 0)) (aNil)))) (aCons (dVar 2) (aCons (dC (.str "let")) (aCons (dC .non) (aNil))))))) (aNil)))))) (gN 9))) (sSeq (sForI (iQ (dTup (aCons (dC (.str "conjugate")) (aCons (dC (.str "norm")) (aCons (dC (.str "quarter")) (aCons (dC (.str "root")) (aNil))))))) (gN 10) (sAsg (dOp (oF fAdd) (dVar 9) (dLst (aCons (dTup (aCons (dVar 10) (aCons (dVar 3) (aCons (dC (.int 0)) (aCons (dC (.str "complex")) (aCons (dVar 3) (aNil))))))) (aCons (dTup (aCons (dVar 10) (aCons (dVar 1) (aCons (dC (.int 0)) (aCons (dC (.str "let")) (aCons (dC .non) (aNil))))))) (aNil))))) (gN 9))) (sSeq (sForI (iQ (dTup (aCons (dC (.str "sum")) (aCons (dC (.str "difference")) (aCons (dC (.str "times")) (aCons (dC (.str "over")) (aCons (dC (.str "distance")) (aNil)))))))) (gN 10) (sSeq (sAsg (dOp (oF fAdd) (dVar 9) (dLst (aCons (dTup (aCons (dVar 10) (aCons (dVar 3) (aCons (dVar 4) (aCons (dC (.str "ratio")) (aCons (dVar 3) (aNil))))))) (aCons (dTup (aCons (dVar 10) (aCons (dVar 5) (aCons (dVar 3) (aCons (dC (.str "ratio")) (aCons (dVar 3) (aNil))))))) (aCons (dTup (aCons (dVar 10) (aCons (dVar 7) (aCons (dVar 4) (aCons (dC (.str "ratio")) (aCons (dVar 7) (aNil))))))) (aNil)))))) (gN 9)) (sAsg (dOp (oF fAdd) (dVar 9) (dLst (aCons (dTup (aCons (dVar 10) (aCons (dVar 5) (aCons (dVar 7) (aCons (dC (.str "ratio")) (aCons (dVar 7) (aNil))))))) (aCons (dTup (aCons (dVar 10) (aCons (dVar 3) (aCons (dVar 7) (aCons (dC (.str "ratio")) (aCons (dVar 3) (aNil))))))) (aCons (dTup (aCons (dVar 10) (aCons (dVar 6) (aCons (dTup (aCons (dC (.int 1)) (aCons (dC (.int 2)) (aCons (dC (.int 2)) (aNil))))) (aCons (dC (.str "let")) (aCons (dC .non) (aNil))))))) (aNil)))))) (gN 9)))) (sSeq (sAsg (dOp (oF fAdd) (dVar 9) (dLst (aCons (dTup (aCons (dC (.str "place")) (aCons (dTup (aCons (dC (.int 0)) (aCons (dC (.int 0)) (aNil)))) (aCons (dTup (aCons (dC (.int 0)) (aCons (dC (.int 0)) (aNil)))) (aCons (dC (.str "none")) (aCons (dC .non) (aNil))))))) (aCons (dTup (aCons (dC (.str "place")) (aCons (dVar 1) (aCons (dTup (aCons (dC (.int 0)) (aCons (dC (.int 1)) (aNil)))) (aCons (dC (.str "let")) (aCons (dC .non) (aNil))))))) (aNil))))) (gN 9)) (sSeq (sAsg (dOp (oF fAdd) (dVar 9) (dLst (aCons (dTup (aCons (dC (.str "place")) (aCons (dTup (aCons (dC (.int 0)) (aCons (dC (.int 0)) (aNil)))) (aCons (dVar 3) (aCons (dC (.str "complex")) (aCons (dVar 3) (aNil))))))) (aCons (dTup (aCons (dC (.str "over")) (aCons (dTup (aCons (dC (.int 0)) (aCons (dC (.int 0)) (aCons (dC (.int 1)) (aNil))))) (aCons (dVar 3) (aCons (dC (.str "ratio")) (aCons (dVar 3) (aNil))))))) (aNil))))) (gN 9)) (sRet (dOp (oF fAdd) (dVar 9) (dLst (aCons (dTup (aCons (dC (.str "over")) (aCons (dVar 5) (aCons (dTup (aCons (dC (.int 0)) (aCons (dC (.int 0)) (aCons (dC (.int 1)) (aNil))))) (aCons (dC (.str "none")) (aCons (dC .non) (aNil))))))) (aCons (dTup (aCons (dC (.str "over")) (aCons (dTup (aCons (dC (.int 0)) (aCons (dC (.int 0)) (aCons (dC (.int 1)) (aNil))))) (aCons (dVar 6) (aCons (dCall 1 sm__law_zero (aCons (dVar 6) (aNil))) (aCons (dC .non) (aNil))))))) (aNil)))))))))))))
def sm__law_cases : Sem := semOf ["_law_tank_here", "_law_one", "_law_two", "_law_odd_here", "_law_other", "_law_here", "_law_there", "_law_far", "_law_wrong_here", "_law_found", "_law_way"] b__law_cases
theorem e__law_cases (a0 : SV) (T : Tk) (k : KD) : sm__law_cases [a0] T k = b__law_cases { nx := fun _ T => k .non T, rt := k, bk := fun _ _ => False, ct := fun _ _ => False } [some a0, none, none, none, none, none, none, none, none, none, none] T := rfl
abbrev st__law_right : Stmt := topS 73
theorem sc__law_right : FnScope ["_law_tank_here", "_law_way", "_law_one", "_law_two", "_law_word", "_law_kept"] ["_law_tank_here"] (defScope st__law_right) := ⟨rfl, rfl, rfl, by decide +kernel, rfl, by decide +kernel, by decide +kernel⟩
def b__law_right : dS := sSeq (sForI (iQ (dCall 1 sm__law_cases (aTank 0 (aNil)))) (gTL 5 (gsCons (gN 1) (gsCons (gN 2) (gsCons (gN 3) (gsCons (gN 4) (gsCons (gN 5) (gsNil))))))) (sIf (dTst (dOp (oF fNe) (dBlt (oG fReprG) (aCons (dCall 3 sm__law_met (aCons (dVar 1) (aCons (dVar 2) (aCons (dVar 3) (aNil))))) (aNil))) (dBlt (oG fReprG) (aCons (dLst (aCons (dVar 4) (aCons (dVar 5) (aNil)))) (aNil))))) (sRet (dC (.bl false))) ((fun k ρ T => k.nx ρ T)))) (sRet (dC (.bl true)))
def sm__law_right : Sem := semOf ["_law_tank_here", "_law_way", "_law_one", "_law_two", "_law_word", "_law_kept"] b__law_right
theorem e__law_right (a0 : SV) (T : Tk) (k : KD) : sm__law_right [a0] T k = b__law_right { nx := fun _ T => k .non T, rt := k, bk := fun _ _ => False, ct := fun _ _ => False } [some a0, none, none, none, none, none] T := rfl
abbrev st_law : Stmt := topS 74
theorem sc_law : FnScope ["_law_script", "_law_spot"] ["_law_script"] (defScope st_law) := ⟨rfl, rfl, rfl, by decide +kernel, rfl, by decide +kernel, by decide +kernel⟩
def b_law : dS := sSeq (sForI (iR1 (aCons (dCall 1 sm__law_rounds (aCons (dVar 0) (aNil))) (aNil))) (gN 1) (sIf (dNot (dTst (dCallT 2 sm__law_right sm__law_tank (aCons (dVar 0) (aCons (dVar 1) (aNil)))))) (sRet (dC (.bl false))) ((fun k ρ T => k.nx ρ T)))) (sRet (dC (.bl true)))
def sm_law : Sem := semOf ["_law_script", "_law_spot"] b_law
theorem e_law (a0 : SV) (T : Tk) (k : KD) : sm_law [a0] T k = b_law { nx := fun _ T => k .non T, rt := k, bk := fun _ _ => False, ct := fun _ _ => False } [some a0, none] T := rfl
def hdD0 : List (Str × Stmt) := [("is_whole", st_is_whole), ("are_wholes", st_are_wholes), ("divisor_of", st_divisor_of), ("lowest", st_lowest), ("is_lowest", st_is_lowest), ("fraction", st_fraction), ("is_complex", st_is_complex), ("check_complex", st_check_complex), ("plus", st_plus), ("minus", st_minus), ("times", st_times), ("turned_over", st_turned_over), ("square_size", st_square_size), ("unit_for", st_unit_for), ("nearest", st_nearest), ("product", st_product), ("divisor_of_two", st_divisor_of_two), ("divisor_of_all", st_divisor_of_all), ("divided", st_divided), ("root", st_root), ("added", st_added), ("subtracted", st_subtracted), ("conjugate", st_conjugate), ("norm", st_norm), ("quarter_form", st_quarter_form)]
def hdD1 : List (Str × Stmt) := [("quotient", st_quotient), ("common_divisor", st_common_divisor), ("root_of", st_root_of), ("is_place", st_is_place), ("is_ratio", st_is_ratio), ("check_ratio", st_check_ratio), ("quotient_place", st_quotient_place), ("real_place", st_real_place), ("place_of", st_place_of), ("sum_of", st_sum_of), ("difference_of", st_difference_of), ("product_of", st_product_of), ("quotient_of", st_quotient_of), ("squared_distance", st_squared_distance), ("distance_of", st_distance_of), ("_law_tank", st__law_tank), ("_law_draw", st__law_draw), ("_law_pick", st__law_pick), ("_law_rounds", st__law_rounds), ("_law_number", st__law_number), ("_law_least", st__law_least), ("_law_complex", st__law_complex), ("_law_place", st__law_place), ("_law_run_more", st__law_run_more), ("_law_run", st__law_run)]
def hdD2 : List (Str × Stmt) := [("_law_met", st__law_met), ("_law_odd", st__law_odd), ("_law_wrong", st__law_wrong), ("_law_zero", st__law_zero), ("_law_cases", st__law_cases), ("_law_right", st__law_right), ("law", st_law)]
def hdDefs : List (Str × Stmt) := hdD0 ++ hdD1 ++ hdD2
def hdFree : List Str := ["ValueError", "abs", "all", "bool", "divmod", "int", "isinstance", "len", "list", "max", "min", "range", "repr", "set", "tuple"]
def hdBlt : List (Str × String) := [("gcd", "math.gcd"), ("isqrt", "math.isqrt")]
def hdCons : List (Str × D) := [("UNITS", k_UNITS), ("ZERO", k_ZERO), ("MOST_NUMBERS", k_MOST_NUMBERS), ("FAR", k_FAR), ("NOUGHT", k_NOUGHT)]
def hdTab : List (Str × List (List Int × Int)) := []
def hdCls : List Str := ["NoPlace", "ArmError"]
def hdPrs : List (Str × Str) := [("ArmError", "ArmError"), ("InvalidComplex", "ArmError"), ("InvalidNumbers", "ArmError"), ("InvalidPlace", "ArmError"), ("InvalidRatio", "ArmError"), ("InvalidNumber", "ArmError"), ("NoPlace", "ArmError")]
def hdIni : List (Str × Str × Str × Stmt) := [("InvalidComplex", "given", "InvalidComplex.__init__", st_InvalidComplex__init), ("InvalidNumbers", "given", "InvalidNumbers.__init__", st_InvalidNumbers__init), ("InvalidRatio", "given", "InvalidRatio.__init__", st_InvalidRatio__init)]
def hdExs : List Str := ["NoPlace", "ArmError", "InvalidComplex", "InvalidNumbers", "InvalidRatio", "InvalidNumber", "InvalidPlace"]
def hdKis : List (Str × Str × Bool) := [(("NoPlace" : Str), ("InvalidNumber" : Str), false), (("ArmError" : Str), ("InvalidNumber" : Str), false), (("InvalidComplex" : Str), ("InvalidNumber" : Str), false), (("InvalidNumbers" : Str), ("InvalidNumber" : Str), false), (("InvalidRatio" : Str), ("InvalidNumber" : Str), false), (("NoPlace" : Str), ("InvalidPlace" : Str), false), (("ArmError" : Str), ("InvalidPlace" : Str), false), (("InvalidComplex" : Str), ("InvalidPlace" : Str), false), (("InvalidNumbers" : Str), ("InvalidPlace" : Str), false), (("InvalidRatio" : Str), ("InvalidPlace" : Str), false), (("NoPlace" : Str), ("NoPlace" : Str), true), (("ArmError" : Str), ("NoPlace" : Str), false), (("InvalidComplex" : Str), ("NoPlace" : Str), false), (("InvalidNumbers" : Str), ("NoPlace" : Str), false), (("InvalidRatio" : Str), ("NoPlace" : Str), false), (("NoPlace" : Str), ("InvalidRatio" : Str), false), (("ArmError" : Str), ("InvalidRatio" : Str), false), (("InvalidComplex" : Str), ("InvalidRatio" : Str), false), (("InvalidNumbers" : Str), ("InvalidRatio" : Str), false), (("InvalidRatio" : Str), ("InvalidRatio" : Str), true), (("NoPlace" : Str), ("InvalidNumbers" : Str), false), (("ArmError" : Str), ("InvalidNumbers" : Str), false), (("InvalidComplex" : Str), ("InvalidNumbers" : Str), false), (("InvalidNumbers" : Str), ("InvalidNumbers" : Str), true), (("InvalidRatio" : Str), ("InvalidNumbers" : Str), false), (("NoPlace" : Str), ("InvalidComplex" : Str), false), (("ArmError" : Str), ("InvalidComplex" : Str), false), (("InvalidComplex" : Str), ("InvalidComplex" : Str), true), (("InvalidNumbers" : Str), ("InvalidComplex" : Str), false), (("InvalidRatio" : Str), ("InvalidComplex" : Str), false)]
def hdKib : List (Str × String × Bool) := [("NoPlace", "ValueError", true), ("ArmError", "ValueError", true), ("InvalidComplex", "ValueError", true), ("InvalidNumbers", "ValueError", true), ("InvalidRatio", "ValueError", true)]
def hd : Hd := ⟨hdDefs, hdFree, hdBlt, hdCons, hdCls, hdPrs, hdIni, hdExs, hdKis, hdKib, true, [], hdTab⟩
def hdN0 : List Str := ["ArmError", "InvalidComplex", "InvalidNumbers", "InvalidPlace", "InvalidRatio", "InvalidNumber", "NoPlace", "is_whole", "are_wholes", "divisor_of", "lowest", "is_lowest", "fraction", "ZERO", "UNITS", "MOST_NUMBERS", "is_complex", "check_complex", "plus", "minus", "times", "turned_over", "square_size", "unit_for", "nearest", "divisor_of_two", "divisor_of_all", "divided", "root", "added"]
def hdN1 : List Str := ["subtracted", "product", "conjugate", "norm", "quarter_form", "quotient", "common_divisor", "root_of", "FAR", "NOUGHT", "is_place", "is_ratio", "check_ratio", "quotient_place", "real_place", "place_of", "sum_of", "difference_of", "product_of", "quotient_of", "squared_distance", "distance_of", "_law_tank", "_law_draw", "_law_pick", "_law_rounds", "_law_number", "_law_least", "_law_complex", "_law_place"]
def hdN2 : List Str := ["_law_run", "_law_run_more", "_law_met", "_law_odd", "_law_wrong", "_law_cases", "_law_zero", "_law_right"]
def hdNames : List Str := hdN0 ++ hdN1 ++ hdN2
abbrev hdR : PySem.W.OpenRow := PySem.W.OpenLaw.row PySem.Challenge.rw_drawarms_k05_complexes_and_places_refuse
abbrev hdV : Program := PySem.W.view hdR.prog [0, 74]
abbrev hdK : PySem.W.Hook := hd.hook
def hdO (s : PySem.W.SharedT) : HdA := hd.obsG (HandSHeadRun.getT s)
theorem hdO_eq (s : PySem.W.SharedT) : hdO s = hdK.obs s.abs := Hd.obs_eq (HandSHeadRun.getT_eq s)
theorem hd_run (w : World) : HandSHeadRun.RunEqI hdR hdV hdK hdO 20000 hdNames w := by
  unfold HandSHeadRun.RunEqI
  kernel_rfl
structure Tx (K : PySem.W.Frag) (mg : Str → Option Value) : Prop where
  d_is_whole : Df K mg "is_whole" st_is_whole
  d_are_wholes : Df K mg "are_wholes" st_are_wholes
  d_divisor_of : Df K mg "divisor_of" st_divisor_of
  d_lowest : Df K mg "lowest" st_lowest
  d_is_lowest : Df K mg "is_lowest" st_is_lowest
  d_fraction : Df K mg "fraction" st_fraction
  d_is_complex : Df K mg "is_complex" st_is_complex
  d_check_complex : Df K mg "check_complex" st_check_complex
  d_plus : Df K mg "plus" st_plus
  d_minus : Df K mg "minus" st_minus
  d_times : Df K mg "times" st_times
  d_turned_over : Df K mg "turned_over" st_turned_over
  d_square_size : Df K mg "square_size" st_square_size
  d_unit_for : Df K mg "unit_for" st_unit_for
  d_nearest : Df K mg "nearest" st_nearest
  d_product : Df K mg "product" st_product
  d_divisor_of_two : Df K mg "divisor_of_two" st_divisor_of_two
  d_divisor_of_all : Df K mg "divisor_of_all" st_divisor_of_all
  d_divided : Df K mg "divided" st_divided
  d_root : Df K mg "root" st_root
  d_added : Df K mg "added" st_added
  d_subtracted : Df K mg "subtracted" st_subtracted
  d_conjugate : Df K mg "conjugate" st_conjugate
  d_norm : Df K mg "norm" st_norm
  d_quarter_form : Df K mg "quarter_form" st_quarter_form
  d_quotient : Df K mg "quotient" st_quotient
  d_common_divisor : Df K mg "common_divisor" st_common_divisor
  d_root_of : Df K mg "root_of" st_root_of
  d_is_place : Df K mg "is_place" st_is_place
  d_is_ratio : Df K mg "is_ratio" st_is_ratio
  d_check_ratio : Df K mg "check_ratio" st_check_ratio
  d_quotient_place : Df K mg "quotient_place" st_quotient_place
  d_real_place : Df K mg "real_place" st_real_place
  d_place_of : Df K mg "place_of" st_place_of
  d_sum_of : Df K mg "sum_of" st_sum_of
  d_difference_of : Df K mg "difference_of" st_difference_of
  d_product_of : Df K mg "product_of" st_product_of
  d_quotient_of : Df K mg "quotient_of" st_quotient_of
  d_squared_distance : Df K mg "squared_distance" st_squared_distance
  d_distance_of : Df K mg "distance_of" st_distance_of
  d__law_tank : Df K mg "_law_tank" st__law_tank
  d__law_draw : Df K mg "_law_draw" st__law_draw
  d__law_pick : Df K mg "_law_pick" st__law_pick
  d__law_rounds : Df K mg "_law_rounds" st__law_rounds
  d__law_number : Df K mg "_law_number" st__law_number
  d__law_least : Df K mg "_law_least" st__law_least
  d__law_complex : Df K mg "_law_complex" st__law_complex
  d__law_place : Df K mg "_law_place" st__law_place
  d__law_run_more : Df K mg "_law_run_more" st__law_run_more
  d__law_run : Df K mg "_law_run" st__law_run
  d__law_met : Df K mg "_law_met" st__law_met
  d__law_odd : Df K mg "_law_odd" st__law_odd
  d__law_wrong : Df K mg "_law_wrong" st__law_wrong
  d__law_zero : Df K mg "_law_zero" st__law_zero
  d__law_cases : Df K mg "_law_cases" st__law_cases
  d__law_right : Df K mg "_law_right" st__law_right
  d_law : Df K mg "law" st_law
  z_ValueError : mg "ValueError" = none
  z_abs : mg "abs" = none
  z_all : mg "all" = none
  z_bool : mg "bool" = none
  z_divmod : mg "divmod" = none
  z_int : mg "int" = none
  z_isinstance : mg "isinstance" = none
  z_len : mg "len" = none
  z_list : mg "list" = none
  z_max : mg "max" = none
  z_min : mg "min" = none
  z_range : mg "range" = none
  z_repr : mg "repr" = none
  z_set : mg "set" = none
  z_tuple : mg "tuple" = none
  b_gcd : mg "gcd" = some (.builtin "math.gcd")
  b_isqrt : mg "isqrt" = some (.builtin "math.isqrt")
  c_UNITS : GC K mg "UNITS" k_UNITS
  c_ZERO : GC K mg "ZERO" k_ZERO
  c_MOST_NUMBERS : GC K mg "MOST_NUMBERS" k_MOST_NUMBERS
  c_FAR : GC K mg "FAR" k_FAR
  c_NOUGHT : GC K mg "NOUGHT" k_NOUGHT
  x_NoPlace : ∃ C, Xc0 K mg "NoPlace" C
  x_ArmError : ∃ C, Xc0 K mg "ArmError" C
  x1_InvalidComplex : ∃ C fI, PySem.XgX.XgTxt "InvalidComplex" "InvalidComplex.__init__" "given" K mg C fI
  x1_InvalidNumbers : ∃ C fI, PySem.XgX.XgTxt "InvalidNumbers" "InvalidNumbers.__init__" "given" K mg C fI
  x1_InvalidRatio : ∃ C fI, PySem.XgX.XgTxt "InvalidRatio" "InvalidRatio.__init__" "given" K mg C fI
  io_InvalidNumber : ∃ C, mg "InvalidNumber" = some (.ref C) ∧ ∀ nm cls, mg nm = some cls → ∀ b, is_InvalidNumber nm = some b → ∃ D, cls = .ref D ∧ ExcC K D ∧ PySem.W.kitOne K (.ref D) (.ref C) = some b
  io_InvalidPlace : ∃ C, mg "InvalidPlace" = some (.ref C) ∧ ∀ nm cls, mg nm = some cls → ∀ b, is_InvalidPlace nm = some b → ∃ D, cls = .ref D ∧ ExcC K D ∧ PySem.W.kitOne K (.ref D) (.ref C) = some b
  io_NoPlace : ∃ C, mg "NoPlace" = some (.ref C) ∧ ∀ nm cls, mg nm = some cls → ∀ b, is_NoPlace nm = some b → ∃ D, cls = .ref D ∧ ExcC K D ∧ PySem.W.kitOne K (.ref D) (.ref C) = some b
  io_InvalidRatio : ∃ C, mg "InvalidRatio" = some (.ref C) ∧ ∀ nm cls, mg nm = some cls → ∀ b, is_InvalidRatio nm = some b → ∃ D, cls = .ref D ∧ ExcC K D ∧ PySem.W.kitOne K (.ref D) (.ref C) = some b
  io_InvalidNumbers : ∃ C, mg "InvalidNumbers" = some (.ref C) ∧ ∀ nm cls, mg nm = some cls → ∀ b, is_InvalidNumbers nm = some b → ∃ D, cls = .ref D ∧ ExcC K D ∧ PySem.W.kitOne K (.ref D) (.ref C) = some b
  io_InvalidComplex : ∃ C, mg "InvalidComplex" = some (.ref C) ∧ ∀ nm cls, mg nm = some cls → ∀ b, is_InvalidComplex nm = some b → ∃ D, cls = .ref D ∧ ExcC K D ∧ PySem.W.kitOne K (.ref D) (.ref C) = some b
  ib_ValueError : ∀ nm cls, mg nm = some cls → ∀ b, is_ValueError nm = some b → ∃ D, cls = .ref D ∧ ExcC K D ∧ PySem.W.kitOne K (.ref D) (.type "ValueError") = some b
  g_given : ∀ nm cls, mg nm = some cls → gv_given nm = true → ∃ qi C fI, cls = .ref C ∧ PySem.XgX.XgTxt nm qi "given" K mg C fI
  sysm : SysOk K
  m_ArmError : ∀ C, mg "ArmError" = some (.ref C) → ∀ nm cls, mt_ArmError nm = some true → mg nm = some cls → PySem.W.exmOne K cls (.ref C) = some true
section
variable {P : Program} {w : World} {K : PySem.W.Frag} {mg : Str → Option Value} {base : Heap}
theorem ok_is_whole (T : Tx K mg) : Ok P w K mg base 1 "is_whole" ["value"] sm_is_whole := by
  refine ok_def (N := ["value"]) T.d_is_whole sc_is_whole (fun _ _ _ _ _ _ us hl => match us, hl with | [_], _ => rfl) (fun _ _ _ _ _ _ us hl => match us, hl with | [_], _ => rfl) fun f cdv A fs s H E hq hr hgd => ?_
  have nd := sc_is_whole.nd
  exact ss_one (s_ret (d_andV (d_isi .int (d_var 0) T.z_isinstance T.z_int) (d_v1 (d_notV (d_isi .bool (d_var 0) T.z_isinstance T.z_bool)))))
theorem ok_are_wholes (T : Tx K mg) : Ok P w K mg base 2 "are_wholes" ["value", "many"] sm_are_wholes := by
  refine ok_def (N := ["value", "many", "number"]) T.d_are_wholes sc_are_wholes (fun _ _ _ _ _ _ us hl => match us, hl with | [_, _], _ => rfl) (fun _ _ _ _ _ _ us hl => match us, hl with | [_, _], _ => rfl) fun f cdv A fs s H E hq hr hgd => ?_
  have nd := sc_are_wholes.nd
  exact ss_one (s_ret (d_andV (d_isi .tuple (d_var 0) T.z_isinstance T.z_tuple) (d_andV (d_feq hr (g_len T.z_len (a_cons (d_var 0) (a_nil))) (d_var 1)) (d_v1 (g_all rfl T.z_all (a_cons (d_lc [("number", 2)] rfl nd (g_seq (d_var 0)) (cg_name) (fun _ _ _ _ _ => pg_name (i := 2) nd rfl (by first | exact Or.inl rfl | exact Or.inr rfl)) (fun _ _ _ _ _ => ts_nil) (fun _ _ _ _ _ => d_call (ok_is_whole T) (hr.mono (by decide)) hgd (a_cons (d_var 2) (a_nil))) (ok := blkOk_by (N := ["value", "many", "number"]) (sc := defScope st_are_wholes) (by decide +kernel))) (a_nil)))))))
theorem ok_divisor_of (T : Tx K mg) : Ok P w K mg base 1 "divisor_of" ["numbers"] sm_divisor_of := by
  refine ok_def (N := ["numbers", "found", "number"]) T.d_divisor_of sc_divisor_of (fun _ _ _ _ _ _ us hl => match us, hl with | [_], _ => rfl) (fun _ _ _ _ _ _ us hl => match us, hl with | [_], _ => rfl) fun f cdv A fs s H E hq hr hgd => ?_
  have nd := sc_divisor_of.nd
  exact ss_cons (s_set 1 nd (d_int)) (ss_cons (s_forI PassesOwn.never rfl (g_seq (d_var 0)) (g_name 2 nd) (ss_one (s_set 1 nd (g_gcd T.b_gcd (a_cons (d_var 1) (a_cons (d_var 2) (a_nil))))))) (ss_one (s_ret (d_var 1))))
theorem ok_lowest (T : Tx K mg) : Ok P w K mg base 2 "lowest" ["numbers"] sm_lowest := by
  refine ok_def (N := ["numbers", "divisor", "number"]) T.d_lowest sc_lowest (fun _ _ _ _ _ _ us hl => match us, hl with | [_], _ => rfl) (fun _ _ _ _ _ _ us hl => match us, hl with | [_], _ => rfl) fun f cdv A fs s H E hq hr hgd => ?_
  have nd := sc_lowest.nd
  exact ss_cons (s_set 1 nd (d_call (ok_divisor_of T) (hr.mono (by decide)) hgd (a_cons (d_var 0) (a_nil)))) (ss_one (s_ret (g_totup T.z_tuple (a_cons (d_lc [("number", 2)] rfl nd (g_seq (d_var 0)) (cg_name) (fun _ _ _ _ _ => pg_name (i := 2) nd rfl (by first | exact Or.inl rfl | exact Or.inr rfl)) (fun _ _ _ _ _ => ts_nil) (fun _ _ _ _ _ => f_div (d_var 2) (d_var 1)) (ok := blkOk_by (N := ["numbers", "divisor", "number"]) (sc := defScope st_lowest) (by decide +kernel))) (a_nil)))))
theorem ok_is_lowest (T : Tx K mg) : Ok P w K mg base 2 "is_lowest" ["numbers"] sm_is_lowest := by
  refine ok_def (N := ["numbers"]) T.d_is_lowest sc_is_lowest (fun _ _ _ _ _ _ us hl => match us, hl with | [_], _ => rfl) (fun _ _ _ _ _ _ us hl => match us, hl with | [_], _ => rfl) fun f cdv A fs s H E hq hr hgd => ?_
  have nd := sc_is_lowest.nd
  exact ss_one (s_ret (d_feq hr (d_call (ok_divisor_of T) (hr.mono (by decide)) hgd (a_cons (d_var 0) (a_nil))) (d_int)))
theorem ok_fraction (T : Tx K mg) : Ok P w K mg base 3 "fraction" ["number", "below"] sm_fraction := by
  refine ok_def (N := ["number", "below"]) T.d_fraction sc_fraction (fun _ _ _ _ _ _ us hl => match us, hl with | [_, _], _ => rfl) (fun _ _ _ _ _ _ us hl => match us, hl with | [_, _], _ => rfl) fun f cdv A fs s H E hq hr hgd => ?_
  have nd := sc_fraction.nd
  exact ss_one (s_ret (d_if (t_fgt (d_var 1) (d_int)) (d_call (ok_lowest T) (hr.mono (by decide)) hgd (a_cons (d_tup (a_cons (d_var 0) (a_cons (d_var 1) (a_nil)))) (a_nil))) (d_call (ok_lowest T) (hr.mono (by decide)) hgd (a_cons (d_tup (a_cons (d_neg (d_var 0)) (a_cons (d_neg (d_var 1)) (a_nil)))) (a_nil)))))
theorem ok_is_complex (T : Tx K mg) : Ok P w K mg base 3 "is_complex" ["value"] sm_is_complex := by
  refine ok_def (N := ["value"]) T.d_is_complex sc_is_complex (fun _ _ _ _ _ _ us hl => match us, hl with | [_], _ => rfl) (fun _ _ _ _ _ _ us hl => match us, hl with | [_], _ => rfl) fun f cdv A fs s H E hq hr hgd => ?_
  have nd := sc_is_complex.nd
  exact ss_one (s_ret (d_call (ok_are_wholes T) (hr.mono (by decide)) hgd (a_cons (d_var 0) (a_cons (d_int) (a_nil)))))
theorem ok_check_complex (T : Tx K mg) : OkX P w K mg base 4 "check_complex" ["value"] se_check_complex := by
  obtain ⟨C_InvalidComplex, fI_InvalidComplex, x_InvalidComplex⟩ := T.x1_InvalidComplex
  refine ok_defX (N := ["value"]) T.d_check_complex sc_check_complex (fun _ _ _ _ _ _ us hl => match us, hl with | [_], _ => rfl) (fun _ _ _ _ _ _ us hl => match us, hl with | [_], _ => rfl) fun f cdv A fs s H E hq hr hgd c r W tk lk => ?_
  have nd := sc_check_complex.nd
  exact ssx_one (sx_if (d_tnot (d_tst (d_call (ok_is_complex T) (hr.mono (by decide)) hgd (a_cons (d_var 0) (a_nil))))) (ssx_one (sx_raise1 x_InvalidComplex rfl hr tk lk (d_var 0))) (ssx_of (ss_nil)))
theorem ok_plus (T : Tx K mg) : Ok P w K mg base 1 "plus" ["number", "other"] sm_plus := by
  refine ok_def (N := ["number", "other"]) T.d_plus sc_plus (fun _ _ _ _ _ _ us hl => match us, hl with | [_, _], _ => rfl) (fun _ _ _ _ _ _ us hl => match us, hl with | [_, _], _ => rfl) fun f cdv A fs s H E hq hr hgd => ?_
  have nd := sc_plus.nd
  exact ss_one (s_ret (d_tup (a_cons (f_add (f_ix (d_var 0) (d_int)) (f_ix (d_var 1) (d_int))) (a_cons (f_add (f_ix (d_var 0) (d_int)) (f_ix (d_var 1) (d_int))) (a_nil)))))
theorem ok_minus (T : Tx K mg) : Ok P w K mg base 1 "minus" ["number", "other"] sm_minus := by
  refine ok_def (N := ["number", "other"]) T.d_minus sc_minus (fun _ _ _ _ _ _ us hl => match us, hl with | [_, _], _ => rfl) (fun _ _ _ _ _ _ us hl => match us, hl with | [_, _], _ => rfl) fun f cdv A fs s H E hq hr hgd => ?_
  have nd := sc_minus.nd
  exact ss_one (s_ret (d_tup (a_cons (f_sub (f_ix (d_var 0) (d_int)) (f_ix (d_var 1) (d_int))) (a_cons (f_sub (f_ix (d_var 0) (d_int)) (f_ix (d_var 1) (d_int))) (a_nil)))))
theorem ok_times (T : Tx K mg) : Ok P w K mg base 1 "times" ["number", "other"] sm_times := by
  refine ok_def (N := ["number", "other"]) T.d_times sc_times (fun _ _ _ _ _ _ us hl => match us, hl with | [_, _], _ => rfl) (fun _ _ _ _ _ _ us hl => match us, hl with | [_, _], _ => rfl) fun f cdv A fs s H E hq hr hgd => ?_
  have nd := sc_times.nd
  exact ss_one (s_ret (d_tup (a_cons (f_sub (f_mul (f_ix (d_var 0) (d_int)) (f_ix (d_var 1) (d_int))) (f_mul (f_ix (d_var 0) (d_int)) (f_ix (d_var 1) (d_int)))) (a_cons (f_add (f_mul (f_ix (d_var 0) (d_int)) (f_ix (d_var 1) (d_int))) (f_mul (f_ix (d_var 0) (d_int)) (f_ix (d_var 1) (d_int)))) (a_nil)))))
theorem ok_turned_over (T : Tx K mg) : Ok P w K mg base 1 "turned_over" ["number"] sm_turned_over := by
  refine ok_def (N := ["number"]) T.d_turned_over sc_turned_over (fun _ _ _ _ _ _ us hl => match us, hl with | [_], _ => rfl) (fun _ _ _ _ _ _ us hl => match us, hl with | [_], _ => rfl) fun f cdv A fs s H E hq hr hgd => ?_
  have nd := sc_turned_over.nd
  exact ss_one (s_ret (d_tup (a_cons (f_ix (d_var 0) (d_int)) (a_cons (d_neg (f_ix (d_var 0) (d_int))) (a_nil)))))
theorem ok_square_size (T : Tx K mg) : Ok P w K mg base 1 "square_size" ["number"] sm_square_size := by
  refine ok_def (N := ["number"]) T.d_square_size sc_square_size (fun _ _ _ _ _ _ us hl => match us, hl with | [_], _ => rfl) (fun _ _ _ _ _ _ us hl => match us, hl with | [_], _ => rfl) fun f cdv A fs s H E hq hr hgd => ?_
  have nd := sc_square_size.nd
  exact ss_one (s_ret (f_add (f_mul (f_ix (d_var 0) (d_int)) (f_ix (d_var 0) (d_int))) (f_mul (f_ix (d_var 0) (d_int)) (f_ix (d_var 0) (d_int)))))
theorem ok_unit_for (T : Tx K mg) : Ok P w K mg base 2 "unit_for" ["number"] sm_unit_for := by
  refine ok_def (N := ["number", "unit", "found"]) T.d_unit_for sc_unit_for (fun _ _ _ _ _ _ us hl => match us, hl with | [_], _ => rfl) (fun _ _ _ _ _ _ us hl => match us, hl with | [_], _ => rfl) fun f cdv A fs s H E hq hr hgd => ?_
  have nd := sc_unit_for.nd
  exact ss_cons (s_forI PassesOwn.never rfl (g_seq (g_slice (d_gc T.c_UNITS) p_none (p_some (d_int)))) (g_name 1 nd) (ss_cons (s_set 2 nd (d_call (ok_times T) (hr.mono (by decide)) hgd (a_cons (d_var 0) (a_cons (d_var 1) (a_nil))))) (ss_one (s_if ((d_wand (t_fgt (f_ix (d_var 2) (d_int)) (d_int)) (d_w1a (t_fge (f_ix (d_var 2) (d_int)) (d_int)))).pt) (ss_one (s_ret (d_var 1))) (ss_nil))))) (ss_one (s_ret (f_ix (d_gc T.c_UNITS) (d_int))))
theorem ok_nearest (T : Tx K mg) : Ok P w K mg base 1 "nearest" ["number", "below"] sm_nearest := by
  refine ok_def (N := ["number", "below"]) T.d_nearest sc_nearest (fun _ _ _ _ _ _ us hl => match us, hl with | [_, _], _ => rfl) (fun _ _ _ _ _ _ us hl => match us, hl with | [_, _], _ => rfl) fun f cdv A fs s H E hq hr hgd => ?_
  have nd := sc_nearest.nd
  exact ss_one (s_ret (f_div (f_add (f_mul (d_int) (d_var 0)) (d_var 1)) (f_mul (d_int) (d_var 1))))
theorem ok_product (T : Tx K mg) : OkX P w K mg base 5 "product" ["number", "other"] se_product := by
  refine ok_defX (N := ["number", "other"]) T.d_product sc_product (fun _ _ _ _ _ _ us hl => match us, hl with | [_, _], _ => rfl) (fun _ _ _ _ _ _ us hl => match us, hl with | [_, _], _ => rfl) fun f cdv A fs s H E hq hr hgd c r W tk lk => ?_
  have nd := sc_product.nd
  exact ssx_cons (sx_expr (x_call (ok_check_complex T) (hr.mono (by decide)) hgd tk lk (a_cons (d_var 0) (a_nil)))) (ssx_cons (sx_expr (x_call (ok_check_complex T) (hr.mono (by decide)) hgd tk lk (a_cons (d_var 1) (a_nil)))) (ssx_one (sx_of (s_ret (d_call (ok_times T) (hr.mono (by decide)) hgd (a_cons (d_var 0) (a_cons (d_var 1) (a_nil))))))))
theorem ok_divisor_of_two (T : Tx K mg) : Ok P w K mg base 2 "divisor_of_two" ["number", "other"] sm_divisor_of_two := by
  refine ok_def (N := ["number", "other", "one", "two", "product", "whole"]) T.d_divisor_of_two sc_divisor_of_two (fun _ _ _ _ _ _ us hl => match us, hl with | [_, _], _ => rfl) (fun _ _ _ _ _ _ us hl => match us, hl with | [_, _], _ => rfl) fun f cdv A fs s H E hq hr hgd => ?_
  have nd := sc_divisor_of_two.nd
  exact ss_cons (s_par 2 3 rfl nd (a_cons (d_var 0) (a_cons (d_var 1) (a_nil)))) (ss_cons (s_while PassesOwn.never (t_fne hr (d_var 3) (d_gc T.c_ZERO)) (ss_cons (s_set 4 nd (d_call (ok_times T) (hr.mono (by decide)) hgd (a_cons (d_var 2) (a_cons (d_call (ok_turned_over T) (hr.mono (by decide)) hgd (a_cons (d_var 3) (a_nil))) (a_nil))))) (ss_cons (s_set 5 nd (d_tup (a_cons (d_call (ok_nearest T) (hr.mono (by decide)) hgd (a_cons (f_ix (d_var 4) (d_int)) (a_cons (d_call (ok_square_size T) (hr.mono (by decide)) hgd (a_cons (d_var 3) (a_nil))) (a_nil)))) (a_cons (d_call (ok_nearest T) (hr.mono (by decide)) hgd (a_cons (f_ix (d_var 4) (d_int)) (a_cons (d_call (ok_square_size T) (hr.mono (by decide)) hgd (a_cons (d_var 3) (a_nil))) (a_nil)))) (a_nil))))) (ss_one (s_par 2 3 rfl nd (a_cons (d_var 3) (a_cons (d_call (ok_minus T) (hr.mono (by decide)) hgd (a_cons (d_var 2) (a_cons (d_call (ok_times T) (hr.mono (by decide)) hgd (a_cons (d_var 5) (a_cons (d_var 3) (a_nil)))) (a_nil)))) (a_nil)))))))) (ss_one (s_ret (d_var 2))))
theorem ok_divisor_of_all (T : Tx K mg) : Ok P w K mg base 3 "divisor_of_all" ["numbers"] sm_divisor_of_all := by
  refine ok_def (N := ["numbers", "found", "number"]) T.d_divisor_of_all sc_divisor_of_all (fun _ _ _ _ _ _ us hl => match us, hl with | [_], _ => rfl) (fun _ _ _ _ _ _ us hl => match us, hl with | [_], _ => rfl) fun f cdv A fs s H E hq hr hgd => ?_
  have nd := sc_divisor_of_all.nd
  exact ss_cons (s_set 1 nd (d_gc T.c_ZERO)) (ss_cons (s_forI PassesOwn.never rfl (g_seq (d_var 0)) (g_name 2 nd) (ss_one (s_set 1 nd (d_call (ok_divisor_of_two T) (hr.mono (by decide)) hgd (a_cons (d_var 1) (a_cons (d_var 2) (a_nil))))))) (ss_one (s_ret (d_var 1))))
theorem ok_divided (T : Tx K mg) : Ok P w K mg base 2 "divided" ["number", "other"] sm_divided := by
  refine ok_def (N := ["number", "other", "product", "below"]) T.d_divided sc_divided (fun _ _ _ _ _ _ us hl => match us, hl with | [_, _], _ => rfl) (fun _ _ _ _ _ _ us hl => match us, hl with | [_, _], _ => rfl) fun f cdv A fs s H E hq hr hgd => ?_
  have nd := sc_divided.nd
  exact ss_cons (s_par 2 3 rfl nd (a_cons (d_call (ok_times T) (hr.mono (by decide)) hgd (a_cons (d_var 0) (a_cons (d_call (ok_turned_over T) (hr.mono (by decide)) hgd (a_cons (d_var 1) (a_nil))) (a_nil)))) (a_cons (d_call (ok_square_size T) (hr.mono (by decide)) hgd (a_cons (d_var 1) (a_nil))) (a_nil)))) (ss_cons (s_if ((d_wor (t_fne hr (f_mod (f_ix (d_var 2) (d_int)) (d_var 3)) (d_int)) (d_w1o (t_fne hr (f_mod (f_ix (d_var 2) (d_int)) (d_var 3)) (d_int)))).pt) (ss_one (s_ret (d_non))) (ss_nil)) (ss_one (s_ret (d_tup (a_cons (f_div (f_ix (d_var 2) (d_int)) (d_var 3)) (a_cons (f_div (f_ix (d_var 2) (d_int)) (d_var 3)) (a_nil)))))))
theorem ok_root (T : Tx K mg) : Ok P w K mg base 2 "root" ["number"] sm_root := by
  refine ok_def (N := ["number", "length", "first", "second", "found"]) T.d_root sc_root (fun _ _ _ _ _ _ us hl => match us, hl with | [_], _ => rfl) (fun _ _ _ _ _ _ us hl => match us, hl with | [_], _ => rfl) fun f cdv A fs s H E hq hr hgd => ?_
  have nd := sc_root.nd
  exact ss_cons (s_set 1 nd (g_isqrt T.b_isqrt (a_cons (d_call (ok_square_size T) (hr.mono (by decide)) hgd (a_cons (d_var 0) (a_nil))) (a_nil)))) (ss_cons (s_set 2 nd (g_isqrt T.b_isqrt (a_cons (g_max2 rfl T.z_max (a_cons (d_int) (a_cons (f_div (f_add (d_var 1) (f_ix (d_var 0) (d_int))) (d_int)) (a_nil)))) (a_nil)))) (ss_cons (s_set 3 nd (g_isqrt T.b_isqrt (a_cons (g_max2 rfl T.z_max (a_cons (d_int) (a_cons (f_div (f_sub (d_var 1) (f_ix (d_var 0) (d_int))) (d_int)) (a_nil)))) (a_nil)))) (ss_cons (s_set 4 nd (d_tup (a_cons (d_var 2) (a_cons (d_if (t_fge (f_ix (d_var 0) (d_int)) (d_int)) (d_var 3) (d_neg (d_var 3))) (a_nil))))) (ss_one (s_ret (d_if (t_feq hr (d_call (ok_times T) (hr.mono (by decide)) hgd (a_cons (d_var 4) (a_cons (d_var 4) (a_nil)))) (d_var 0)) (d_var 4) (d_non)))))))
theorem ok_added (T : Tx K mg) : OkX P w K mg base 5 "added" ["number", "other"] se_added := by
  refine ok_defX (N := ["number", "other"]) T.d_added sc_added (fun _ _ _ _ _ _ us hl => match us, hl with | [_, _], _ => rfl) (fun _ _ _ _ _ _ us hl => match us, hl with | [_, _], _ => rfl) fun f cdv A fs s H E hq hr hgd c r W tk lk => ?_
  have nd := sc_added.nd
  exact ssx_cons (sx_expr (x_call (ok_check_complex T) (hr.mono (by decide)) hgd tk lk (a_cons (d_var 0) (a_nil)))) (ssx_cons (sx_expr (x_call (ok_check_complex T) (hr.mono (by decide)) hgd tk lk (a_cons (d_var 1) (a_nil)))) (ssx_one (sx_of (s_ret (d_call (ok_plus T) (hr.mono (by decide)) hgd (a_cons (d_var 0) (a_cons (d_var 1) (a_nil))))))))
theorem ok_subtracted (T : Tx K mg) : OkX P w K mg base 5 "subtracted" ["number", "other"] se_subtracted := by
  refine ok_defX (N := ["number", "other"]) T.d_subtracted sc_subtracted (fun _ _ _ _ _ _ us hl => match us, hl with | [_, _], _ => rfl) (fun _ _ _ _ _ _ us hl => match us, hl with | [_, _], _ => rfl) fun f cdv A fs s H E hq hr hgd c r W tk lk => ?_
  have nd := sc_subtracted.nd
  exact ssx_cons (sx_expr (x_call (ok_check_complex T) (hr.mono (by decide)) hgd tk lk (a_cons (d_var 0) (a_nil)))) (ssx_cons (sx_expr (x_call (ok_check_complex T) (hr.mono (by decide)) hgd tk lk (a_cons (d_var 1) (a_nil)))) (ssx_one (sx_of (s_ret (d_call (ok_minus T) (hr.mono (by decide)) hgd (a_cons (d_var 0) (a_cons (d_var 1) (a_nil))))))))
theorem ok_conjugate (T : Tx K mg) : OkX P w K mg base 5 "conjugate" ["number"] se_conjugate := by
  refine ok_defX (N := ["number"]) T.d_conjugate sc_conjugate (fun _ _ _ _ _ _ us hl => match us, hl with | [_], _ => rfl) (fun _ _ _ _ _ _ us hl => match us, hl with | [_], _ => rfl) fun f cdv A fs s H E hq hr hgd c r W tk lk => ?_
  have nd := sc_conjugate.nd
  exact ssx_cons (sx_expr (x_call (ok_check_complex T) (hr.mono (by decide)) hgd tk lk (a_cons (d_var 0) (a_nil)))) (ssx_one (sx_of (s_ret (d_call (ok_turned_over T) (hr.mono (by decide)) hgd (a_cons (d_var 0) (a_nil))))))
theorem ok_norm (T : Tx K mg) : OkX P w K mg base 5 "norm" ["number"] se_norm := by
  refine ok_defX (N := ["number"]) T.d_norm sc_norm (fun _ _ _ _ _ _ us hl => match us, hl with | [_], _ => rfl) (fun _ _ _ _ _ _ us hl => match us, hl with | [_], _ => rfl) fun f cdv A fs s H E hq hr hgd c r W tk lk => ?_
  have nd := sc_norm.nd
  exact ssx_cons (sx_expr (x_call (ok_check_complex T) (hr.mono (by decide)) hgd tk lk (a_cons (d_var 0) (a_nil)))) (ssx_one (sx_of (s_ret (d_call (ok_square_size T) (hr.mono (by decide)) hgd (a_cons (d_var 0) (a_nil))))))
theorem ok_quarter_form (T : Tx K mg) : OkX P w K mg base 5 "quarter_form" ["number"] se_quarter_form := by
  refine ok_defX (N := ["number"]) T.d_quarter_form sc_quarter_form (fun _ _ _ _ _ _ us hl => match us, hl with | [_], _ => rfl) (fun _ _ _ _ _ _ us hl => match us, hl with | [_], _ => rfl) fun f cdv A fs s H E hq hr hgd c r W tk lk => ?_
  have nd := sc_quarter_form.nd
  exact ssx_cons (sx_expr (x_call (ok_check_complex T) (hr.mono (by decide)) hgd tk lk (a_cons (d_var 0) (a_nil)))) (ssx_one (sx_of (s_ret (d_if (t_feq hr (d_var 0) (d_gc T.c_ZERO)) (d_gc T.c_ZERO) (d_call (ok_times T) (hr.mono (by decide)) hgd (a_cons (d_var 0) (a_cons (d_call (ok_unit_for T) (hr.mono (by decide)) hgd (a_cons (d_var 0) (a_nil))) (a_nil))))))))
theorem ok_quotient (T : Tx K mg) : OkX P w K mg base 5 "quotient" ["number", "other"] se_quotient := by
  refine ok_defX (N := ["number", "other"]) T.d_quotient sc_quotient (fun _ _ _ _ _ _ us hl => match us, hl with | [_, _], _ => rfl) (fun _ _ _ _ _ _ us hl => match us, hl with | [_, _], _ => rfl) fun f cdv A fs s H E hq hr hgd c r W tk lk => ?_
  have nd := sc_quotient.nd
  exact ssx_cons (sx_expr (x_call (ok_check_complex T) (hr.mono (by decide)) hgd tk lk (a_cons (d_var 0) (a_nil)))) (ssx_cons (sx_expr (x_call (ok_check_complex T) (hr.mono (by decide)) hgd tk lk (a_cons (d_var 1) (a_nil)))) (ssx_one (sx_of (s_ret (d_if (t_feq hr (d_var 1) (d_gc T.c_ZERO)) (d_non) (d_call (ok_divided T) (hr.mono (by decide)) hgd (a_cons (d_var 0) (a_cons (d_var 1) (a_nil)))))))))
theorem ok_common_divisor (T : Tx K mg) : OkX P w K mg base 6 "common_divisor" ["numbers"] se_common_divisor := by
  obtain ⟨C_InvalidNumbers, fI_InvalidNumbers, x_InvalidNumbers⟩ := T.x1_InvalidNumbers
  refine ok_defX (N := ["numbers", "number"]) T.d_common_divisor sc_common_divisor (fun _ _ _ _ _ _ us hl => match us, hl with | [_], _ => rfl) (fun _ _ _ _ _ _ us hl => match us, hl with | [_], _ => rfl) fun f cdv A fs s H E hq hr hgd c r W tk lk => ?_
  have nd := sc_common_divisor.nd
  exact ssx_cons (sx_if ((d_wor (d_tnot (d_tst (d_isi .tuple (d_var 0) T.z_isinstance T.z_tuple))) (d_w1o (d_tnot (d_chn op_le op_le (d_int) (g_len T.z_len (a_cons (d_var 0) (a_nil))) (d_gc T.c_MOST_NUMBERS))))).pt) (ssx_one (sx_raise1 x_InvalidNumbers rfl hr tk lk (d_var 0))) (ssx_of (ss_nil))) (ssx_cons (sx_if ((d_wor (t_fneE (lt_units (room66 hr)) (d_lc [("number", 1)] rfl nd (g_seq (d_var 0)) (cg_name) (fun _ _ _ _ _ => pg_name (i := 1) nd rfl (by first | exact Or.inl rfl | exact Or.inr rfl)) (fun _ _ _ _ _ => ts_one (d_tnot (d_tst (d_call (ok_is_complex T) (hr.mono (by decide)) hgd (a_cons (d_var 1) (a_nil)))))) (fun _ _ _ _ _ => d_var 1) (ok := blkOk_by (N := ["numbers", "number"]) (sc := defScope st_common_divisor) (by decide +kernel))) (d_lst (a_nil))) (d_w1o (d_setEq rfl (room66 hr) T.z_set hq.kds (d_var 0) (d_gc T.c_ZERO)))).pt) (ssx_one (sx_raise1 x_InvalidNumbers rfl hr tk lk (d_var 0))) (ssx_of (ss_nil))) (ssx_one (sx_ret (x_call (ok_quarter_form T) (hr.mono (by decide)) hgd tk lk (a_cons (d_call (ok_divisor_of_all T) (hr.mono (by decide)) hgd (a_cons (d_var 0) (a_nil))) (a_nil))))))
theorem ok_root_of (T : Tx K mg) : OkX P w K mg base 5 "root_of" ["number"] se_root_of := by
  refine ok_defX (N := ["number"]) T.d_root_of sc_root_of (fun _ _ _ _ _ _ us hl => match us, hl with | [_], _ => rfl) (fun _ _ _ _ _ _ us hl => match us, hl with | [_], _ => rfl) fun f cdv A fs s H E hq hr hgd c r W tk lk => ?_
  have nd := sc_root_of.nd
  exact ssx_cons (sx_expr (x_call (ok_check_complex T) (hr.mono (by decide)) hgd tk lk (a_cons (d_var 0) (a_nil)))) (ssx_one (sx_of (s_ret (d_call (ok_root T) (hr.mono (by decide)) hgd (a_cons (d_var 0) (a_nil))))))
theorem ok_is_place (T : Tx K mg) : Ok P w K mg base 3 "is_place" ["value"] sm_is_place := by
  refine ok_def (N := ["value"]) T.d_is_place sc_is_place (fun _ _ _ _ _ _ us hl => match us, hl with | [_], _ => rfl) (fun _ _ _ _ _ _ us hl => match us, hl with | [_], _ => rfl) fun f cdv A fs s H E hq hr hgd => ?_
  have nd := sc_is_place.nd
  exact ss_one (s_ret (d_andV (d_call (ok_are_wholes T) (hr.mono (by decide)) hgd (a_cons (d_var 0) (a_cons (d_int) (a_nil)))) (d_v1 (d_orV (d_feq hr (d_var 0) (d_gc T.c_FAR)) (d_v1 (d_andV (d_fgt (f_ix (d_var 0) (d_int)) (d_int)) (d_v1 (d_call (ok_is_lowest T) (hr.mono (by decide)) hgd (a_cons (d_var 0) (a_nil))))))))))
theorem ok_is_ratio (T : Tx K mg) : Ok P w K mg base 4 "is_ratio" ["value"] sm_is_ratio := by
  refine ok_def (N := ["value"]) T.d_is_ratio sc_is_ratio (fun _ _ _ _ _ _ us hl => match us, hl with | [_], _ => rfl) (fun _ _ _ _ _ _ us hl => match us, hl with | [_], _ => rfl) fun f cdv A fs s H E hq hr hgd => ?_
  have nd := sc_is_ratio.nd
  exact ss_one (s_ret (d_andV (d_call (ok_is_place T) (hr.mono (by decide)) hgd (a_cons (d_var 0) (a_nil))) (d_v1 (d_fne hr (d_var 0) (d_gc T.c_FAR)))))
theorem ok_check_ratio (T : Tx K mg) : OkX P w K mg base 5 "check_ratio" ["value"] se_check_ratio := by
  obtain ⟨C_InvalidRatio, fI_InvalidRatio, x_InvalidRatio⟩ := T.x1_InvalidRatio
  refine ok_defX (N := ["value"]) T.d_check_ratio sc_check_ratio (fun _ _ _ _ _ _ us hl => match us, hl with | [_], _ => rfl) (fun _ _ _ _ _ _ us hl => match us, hl with | [_], _ => rfl) fun f cdv A fs s H E hq hr hgd c r W tk lk => ?_
  have nd := sc_check_ratio.nd
  exact ssx_one (sx_if (d_tnot (d_tst (d_call (ok_is_ratio T) (hr.mono (by decide)) hgd (a_cons (d_var 0) (a_nil))))) (ssx_one (sx_raise1 x_InvalidRatio rfl hr tk lk (d_var 0))) (ssx_of (ss_nil)))
theorem ok_quotient_place (T : Tx K mg) : Ok P w K mg base 3 "quotient_place" ["number", "other"] sm_quotient_place := by
  refine ok_def (N := ["number", "other", "product"]) T.d_quotient_place sc_quotient_place (fun _ _ _ _ _ _ us hl => match us, hl with | [_, _], _ => rfl) (fun _ _ _ _ _ _ us hl => match us, hl with | [_, _], _ => rfl) fun f cdv A fs s H E hq hr hgd => ?_
  have nd := sc_quotient_place.nd
  exact ss_cons (s_if (t_feq hr (d_var 1) (d_gc T.c_ZERO)) (ss_one (s_ret (d_gc T.c_FAR))) (ss_nil)) (ss_cons (s_set 2 nd (d_call (ok_times T) (hr.mono (by decide)) hgd (a_cons (d_var 0) (a_cons (d_call (ok_turned_over T) (hr.mono (by decide)) hgd (a_cons (d_var 1) (a_nil))) (a_nil))))) (ss_one (s_ret (d_call (ok_lowest T) (hr.mono (by decide)) hgd (a_cons (d_tup (a_cons (f_ix (d_var 2) (d_int)) (a_cons (f_ix (d_var 2) (d_int)) (a_cons (d_call (ok_square_size T) (hr.mono (by decide)) hgd (a_cons (d_var 1) (a_nil))) (a_nil))))) (a_nil))))))
theorem ok_real_place (T : Tx K mg) : Ok P w K mg base 3 "real_place" ["number", "below"] sm_real_place := by
  refine ok_def (N := ["number", "below"]) T.d_real_place sc_real_place (fun _ _ _ _ _ _ us hl => match us, hl with | [_, _], _ => rfl) (fun _ _ _ _ _ _ us hl => match us, hl with | [_, _], _ => rfl) fun f cdv A fs s H E hq hr hgd => ?_
  have nd := sc_real_place.nd
  exact ss_one (s_ret (d_call (ok_lowest T) (hr.mono (by decide)) hgd (a_cons (d_tup (a_cons (f_ix (d_var 0) (d_int)) (a_cons (f_ix (d_var 0) (d_int)) (a_cons (d_var 1) (a_nil))))) (a_nil))))
theorem ok_place_of (T : Tx K mg) : OkX P w K mg base 5 "place_of" ["number", "other"] se_place_of := by
  obtain ⟨C_NoPlace, x_NoPlace⟩ := T.x_NoPlace
  refine ok_defX (N := ["number", "other"]) T.d_place_of sc_place_of (fun _ _ _ _ _ _ us hl => match us, hl with | [_, _], _ => rfl) (fun _ _ _ _ _ _ us hl => match us, hl with | [_, _], _ => rfl) fun f cdv A fs s H E hq hr hgd c r W tk lk => ?_
  have nd := sc_place_of.nd
  exact ssx_cons (sx_expr (x_call (ok_check_complex T) (hr.mono (by decide)) hgd tk lk (a_cons (d_var 0) (a_nil)))) (ssx_cons (sx_expr (x_call (ok_check_complex T) (hr.mono (by decide)) hgd tk lk (a_cons (d_var 1) (a_nil)))) (ssx_cons (sx_if ((d_wand (t_feq hr (d_var 0) (d_gc T.c_ZERO)) (d_w1a (t_feq hr (d_var 1) (d_gc T.c_ZERO)))).pt) (ssx_one (sx_raise0 x_NoPlace rfl tk lk)) (ssx_of (ss_nil))) (ssx_one (sx_of (s_ret (d_call (ok_quotient_place T) (hr.mono (by decide)) hgd (a_cons (d_var 0) (a_cons (d_var 1) (a_nil)))))))))
theorem ok_sum_of (T : Tx K mg) : OkX P w K mg base 6 "sum_of" ["place", "other"] se_sum_of := by
  refine ok_defX (N := ["place", "other", "p", "s", "r", "u", "v", "w"]) T.d_sum_of sc_sum_of (fun _ _ _ _ _ _ us hl => match us, hl with | [_, _], _ => rfl) (fun _ _ _ _ _ _ us hl => match us, hl with | [_, _], _ => rfl) fun f cdv A fs s H E hq hr hgd c r W tk lk => ?_
  have nd := sc_sum_of.nd
  exact ssx_cons (sx_expr (x_call (ok_check_ratio T) (hr.mono (by decide)) hgd tk lk (a_cons (d_var 0) (a_nil)))) (ssx_cons (sx_expr (x_call (ok_check_ratio T) (hr.mono (by decide)) hgd tk lk (a_cons (d_var 1) (a_nil)))) (ssx_cons (sx_of (s_asg (d_tup (a_cons (d_var 0) (a_cons (d_var 1) (a_nil)))) (g_unp rfl (gs_cons (g_unp rfl (gs_cons (g_name 2 nd) (gs_cons (g_name 3 nd) (gs_cons (g_name 4 nd) (gs_nil))))) (gs_cons (g_unp rfl (gs_cons (g_name 5 nd) (gs_cons (g_name 6 nd) (gs_cons (g_name 7 nd) (gs_nil))))) (gs_nil)))))) (ssx_one (sx_of (s_ret (d_call (ok_lowest T) (hr.mono (by decide)) hgd (a_cons (d_tup (a_cons (f_add (f_mul (d_var 2) (d_var 7)) (f_mul (d_var 5) (d_var 4))) (a_cons (f_add (f_mul (d_var 3) (d_var 7)) (f_mul (d_var 6) (d_var 4))) (a_cons (f_mul (d_var 4) (d_var 7)) (a_nil))))) (a_nil))))))))
theorem ok_difference_of (T : Tx K mg) : OkX P w K mg base 6 "difference_of" ["place", "other"] se_difference_of := by
  refine ok_defX (N := ["place", "other", "p", "s", "r", "u", "v", "w"]) T.d_difference_of sc_difference_of (fun _ _ _ _ _ _ us hl => match us, hl with | [_, _], _ => rfl) (fun _ _ _ _ _ _ us hl => match us, hl with | [_, _], _ => rfl) fun f cdv A fs s H E hq hr hgd c r W tk lk => ?_
  have nd := sc_difference_of.nd
  exact ssx_cons (sx_expr (x_call (ok_check_ratio T) (hr.mono (by decide)) hgd tk lk (a_cons (d_var 0) (a_nil)))) (ssx_cons (sx_expr (x_call (ok_check_ratio T) (hr.mono (by decide)) hgd tk lk (a_cons (d_var 1) (a_nil)))) (ssx_cons (sx_of (s_asg (d_tup (a_cons (d_var 0) (a_cons (d_var 1) (a_nil)))) (g_unp rfl (gs_cons (g_unp rfl (gs_cons (g_name 2 nd) (gs_cons (g_name 3 nd) (gs_cons (g_name 4 nd) (gs_nil))))) (gs_cons (g_unp rfl (gs_cons (g_name 5 nd) (gs_cons (g_name 6 nd) (gs_cons (g_name 7 nd) (gs_nil))))) (gs_nil)))))) (ssx_one (sx_of (s_ret (d_call (ok_lowest T) (hr.mono (by decide)) hgd (a_cons (d_tup (a_cons (f_sub (f_mul (d_var 2) (d_var 7)) (f_mul (d_var 5) (d_var 4))) (a_cons (f_sub (f_mul (d_var 3) (d_var 7)) (f_mul (d_var 6) (d_var 4))) (a_cons (f_mul (d_var 4) (d_var 7)) (a_nil))))) (a_nil))))))))
theorem ok_product_of (T : Tx K mg) : OkX P w K mg base 6 "product_of" ["place", "other"] se_product_of := by
  refine ok_defX (N := ["place", "other"]) T.d_product_of sc_product_of (fun _ _ _ _ _ _ us hl => match us, hl with | [_, _], _ => rfl) (fun _ _ _ _ _ _ us hl => match us, hl with | [_, _], _ => rfl) fun f cdv A fs s H E hq hr hgd c r W tk lk => ?_
  have nd := sc_product_of.nd
  exact ssx_cons (sx_expr (x_call (ok_check_ratio T) (hr.mono (by decide)) hgd tk lk (a_cons (d_var 0) (a_nil)))) (ssx_cons (sx_expr (x_call (ok_check_ratio T) (hr.mono (by decide)) hgd tk lk (a_cons (d_var 1) (a_nil)))) (ssx_one (sx_of (s_ret (d_call (ok_real_place T) (hr.mono (by decide)) hgd (a_cons (d_call (ok_times T) (hr.mono (by decide)) hgd (a_cons (g_slice (d_var 0) p_none (p_some (d_int))) (a_cons (g_slice (d_var 1) p_none (p_some (d_int))) (a_nil)))) (a_cons (f_mul (f_ix (d_var 0) (d_int)) (f_ix (d_var 1) (d_int))) (a_nil))))))))
theorem ok_quotient_of (T : Tx K mg) : OkX P w K mg base 6 "quotient_of" ["place", "other"] se_quotient_of := by
  obtain ⟨C_NoPlace, x_NoPlace⟩ := T.x_NoPlace
  refine ok_defX (N := ["place", "other"]) T.d_quotient_of sc_quotient_of (fun _ _ _ _ _ _ us hl => match us, hl with | [_, _], _ => rfl) (fun _ _ _ _ _ _ us hl => match us, hl with | [_, _], _ => rfl) fun f cdv A fs s H E hq hr hgd c r W tk lk => ?_
  have nd := sc_quotient_of.nd
  exact ssx_cons (sx_expr (x_call (ok_check_ratio T) (hr.mono (by decide)) hgd tk lk (a_cons (d_var 0) (a_nil)))) (ssx_cons (sx_expr (x_call (ok_check_ratio T) (hr.mono (by decide)) hgd tk lk (a_cons (d_var 1) (a_nil)))) (ssx_cons (sx_if (t_feq hr (d_var 1) (d_gc T.c_NOUGHT)) (ssx_one (sx_raise0 x_NoPlace rfl tk lk)) (ssx_of (ss_nil))) (ssx_one (sx_of (s_ret (d_call (ok_quotient_place T) (hr.mono (by decide)) hgd (a_cons (d_call (ok_times T) (hr.mono (by decide)) hgd (a_cons (g_slice (d_var 0) p_none (p_some (d_int))) (a_cons (d_tup (a_cons (f_ix (d_var 1) (d_int)) (a_cons (d_int) (a_nil)))) (a_nil)))) (a_cons (d_call (ok_times T) (hr.mono (by decide)) hgd (a_cons (g_slice (d_var 1) p_none (p_some (d_int))) (a_cons (d_tup (a_cons (f_ix (d_var 0) (d_int)) (a_cons (d_int) (a_nil)))) (a_nil)))) (a_nil)))))))))
theorem ok_squared_distance (T : Tx K mg) : Ok P w K mg base 4 "squared_distance" ["place", "other"] sm_squared_distance := by
  refine ok_def (N := ["place", "other", "p", "s", "r", "u", "v", "w", "across", "along"]) T.d_squared_distance sc_squared_distance (fun _ _ _ _ _ _ us hl => match us, hl with | [_, _], _ => rfl) (fun _ _ _ _ _ _ us hl => match us, hl with | [_, _], _ => rfl) fun f cdv A fs s H E hq hr hgd => ?_
  have nd := sc_squared_distance.nd
  exact ss_cons (s_asg (d_tup (a_cons (d_var 0) (a_cons (d_var 1) (a_nil)))) (g_unp rfl (gs_cons (g_unp rfl (gs_cons (g_name 2 nd) (gs_cons (g_name 3 nd) (gs_cons (g_name 4 nd) (gs_nil))))) (gs_cons (g_unp rfl (gs_cons (g_name 5 nd) (gs_cons (g_name 6 nd) (gs_cons (g_name 7 nd) (gs_nil))))) (gs_nil))))) (ss_cons (s_par 8 9 rfl nd (a_cons (f_sub (f_mul (d_var 2) (d_var 7)) (f_mul (d_var 5) (d_var 4))) (a_cons (f_sub (f_mul (d_var 3) (d_var 7)) (f_mul (d_var 6) (d_var 4))) (a_nil)))) (ss_one (s_ret (d_call (ok_fraction T) (hr.mono (by decide)) hgd (a_cons (f_add (f_mul (d_var 8) (d_var 8)) (f_mul (d_var 9) (d_var 9))) (a_cons (f_mul (f_mul (f_mul (d_var 4) (d_var 4)) (d_var 7)) (d_var 7)) (a_nil)))))))
theorem ok_distance_of (T : Tx K mg) : OkX P w K mg base 6 "distance_of" ["place", "other"] se_distance_of := by
  refine ok_defX (N := ["place", "other"]) T.d_distance_of sc_distance_of (fun _ _ _ _ _ _ us hl => match us, hl with | [_, _], _ => rfl) (fun _ _ _ _ _ _ us hl => match us, hl with | [_, _], _ => rfl) fun f cdv A fs s H E hq hr hgd c r W tk lk => ?_
  have nd := sc_distance_of.nd
  exact ssx_cons (sx_expr (x_call (ok_check_ratio T) (hr.mono (by decide)) hgd tk lk (a_cons (d_var 0) (a_nil)))) (ssx_cons (sx_expr (x_call (ok_check_ratio T) (hr.mono (by decide)) hgd tk lk (a_cons (d_var 1) (a_nil)))) (ssx_one (sx_of (s_ret (d_call (ok_squared_distance T) (hr.mono (by decide)) hgd (a_cons (d_var 0) (a_cons (d_var 1) (a_nil))))))))
theorem ok__law_tank (T : Tx K mg) : OkO P w K mg base 1 "_law_tank" ["_law_script", "_law_spot"] sm__law_tank := by
  refine ok_defO (N := ["_law_script", "_law_spot", "_law_stir", "_law_cell", "_law_own", "_law_rest"]) T.d__law_tank sc__law_tank (fun _ _ _ _ _ _ us hl => match us, hl with | [_, _], _ => rfl) fun f cdv A fs s H E hq hr hgd => ?_
  have nd := sc__law_tank.nd
  exact so_cons (s_set 2 nd (f_add (d_int) (f_mul (d_int) (d_var 1)))) (so_cons (s_forI PassesOwn.never rfl (g_seq (g_slice (d_var 0) p_none (p_some (d_int)))) (g_name 3 nd) (ss_one (s_set 2 nd (f_mod (g_toint T.z_int (a_cons (f_add (f_add (f_mul (d_var 2) (d_int)) (f_mod (g_toint T.z_int (a_cons (d_var 3) (a_nil))) (d_int))) (d_int)) (a_nil))) (d_int))))) (so_cons (s_set 4 nd (d_if (t_flt (d_var 1) (g_len T.z_len (a_cons (d_var 0) (a_nil)))) (g_toint T.z_int (a_cons (f_ix (d_var 0) (d_var 1)) (a_nil))) (d_var 2))) (so_cons (s_set 5 nd (d_if ((d_wor (t_flt (d_var 4) (d_int)) (d_w1o (t_fge (d_var 4) (f_pow (d_int) (d_int))))).pt) (g_abs T.z_abs (a_cons (d_var 4) (a_nil))) (d_int))) (so_ret (a_cons (d_var 5) (a_cons (f_mod (g_toint T.z_int (a_cons (f_add (f_add (f_mul (d_var 2) (d_int)) (f_mul (f_mod (g_toint T.z_int (a_cons (d_var 4) (a_nil))) (d_int)) (d_int))) (d_int)) (a_nil))) (d_int)) (a_cons (d_int) (a_nil))))))))
theorem ok__law_draw (T : Tx K mg) : Ok P w K mg base 1 "_law_draw" ["_law_tank_here", "_law_many"] sm__law_draw := by
  refine ok_def (N := ["_law_tank_here", "_law_many", "_law_figure", "_law_pace"]) T.d__law_draw sc__law_draw (fun _ _ _ _ _ _ us hl => match us, hl with | [_, _], _ => rfl) (fun _ _ _ _ _ _ us hl => match us, hl with | [_, _], _ => rfl) fun f cdv A fs s H E hq hr hgd => ?_
  have nd := sc__law_draw.nd
  exact ss_cons (s_if (t_fgt (d_tix 0 (d_int)) (d_int)) (ss_cons (s_asg (g_divmod T.z_divmod (a_cons (d_tix 0 (d_int)) (a_cons (d_var 1) (a_nil)))) (g_unp rfl (gs_cons (g_tset 0 (d_int)) (gs_cons (g_name 2 nd) (gs_nil))))) (ss_one (s_ret (d_var 2)))) (ss_nil)) (ss_cons (s_asg (f_add (d_tix 0 (d_int)) (d_int)) (g_tset 0 (d_int))) (ss_cons (s_set 3 nd (f_add (f_mod (g_toint T.z_int (a_cons (d_tix 0 (d_int)) (a_nil))) (d_int)) (d_int))) (ss_cons (s_asg (f_mod (g_toint T.z_int (a_cons (f_add (f_add (f_mul (d_tix 0 (d_int)) (d_var 3)) (f_mul (d_int) (d_tix 0 (d_int)))) (d_int)) (a_nil))) (d_int)) (g_tset 0 (d_int))) (ss_one (s_ret (f_mod (g_toint T.z_int (a_cons (f_div (d_tix 0 (d_int)) (d_int)) (a_nil))) (d_var 1)))))))
theorem ok__law_pick (T : Tx K mg) : Ok P w K mg base 2 "_law_pick" ["_law_tank_here", "_law_some"] sm__law_pick := by
  refine ok_def (N := ["_law_tank_here", "_law_some"]) T.d__law_pick sc__law_pick (fun _ _ _ _ _ _ us hl => match us, hl with | [_, _], _ => rfl) (fun _ _ _ _ _ _ us hl => match us, hl with | [_, _], _ => rfl) fun f cdv A fs s H E hq hr hgd => ?_
  have nd := sc__law_pick.nd
  exact ss_one (s_ret (f_ix (d_var 1) (d_call (ok__law_draw T) (hr.mono (by decide)) hgd (a_tank 0 (a_cons (g_len T.z_len (a_cons (d_var 1) (a_nil))) (a_nil))))))
theorem ok__law_rounds (T : Tx K mg) : Ok P w K mg base 1 "_law_rounds" ["_law_script"] sm__law_rounds := by
  refine ok_def (N := ["_law_script"]) T.d__law_rounds sc__law_rounds (fun _ _ _ _ _ _ us hl => match us, hl with | [_], _ => rfl) (fun _ _ _ _ _ _ us hl => match us, hl with | [_], _ => rfl) fun f cdv A fs s H E hq hr hgd => ?_
  have nd := sc__law_rounds.nd
  exact ss_one (s_ret (g_max2 rfl T.z_max (a_cons (d_int) (a_cons (g_min2 rfl T.z_min (a_cons (g_len T.z_len (a_cons (d_var 0) (a_nil))) (a_cons (d_int) (a_nil)))) (a_nil)))))
theorem ok__law_number (T : Tx K mg) : Ok P w K mg base 3 "_law_number" ["_law_tank_here"] sm__law_number := by
  refine ok_def (N := ["_law_tank_here", "_law_size"]) T.d__law_number sc__law_number (fun _ _ _ _ _ _ us hl => match us, hl with | [_], _ => rfl) (fun _ _ _ _ _ _ us hl => match us, hl with | [_], _ => rfl) fun f cdv A fs s H E hq hr hgd => ?_
  have nd := sc__law_number.nd
  exact ss_cons (s_set 1 nd (d_call (ok__law_pick T) (hr.mono (by decide)) hgd (a_tank 0 (a_cons (d_tup (a_cons (d_int) (a_cons (d_int) (a_cons (d_int) (a_cons (d_int) (a_cons (d_int) (a_cons (d_int) (a_cons (d_int) (a_nil))))))))) (a_nil))))) (ss_cons (s_if (t_fgt (d_var 1) (d_int)) (ss_one (s_ret (f_sub (d_call (ok__law_draw T) (hr.mono (by decide)) hgd (a_tank 0 (a_cons (f_add (f_mul (d_int) (d_var 1)) (d_int)) (a_nil)))) (d_var 1)))) (ss_nil)) (ss_one (s_ret (f_mul (f_add (f_mul (d_call (ok__law_draw T) (hr.mono (by decide)) hgd (a_tank 0 (a_cons (d_int) (a_nil)))) (d_int)) (d_call (ok__law_draw T) (hr.mono (by decide)) hgd (a_tank 0 (a_cons (d_int) (a_nil))))) (f_sub (d_int) (f_mul (d_int) (d_call (ok__law_draw T) (hr.mono (by decide)) hgd (a_tank 0 (a_cons (d_int) (a_nil))))))))))
theorem ok__law_least (T : Tx K mg) : Ok P w K mg base 1 "_law_least" ["_law_numbers"] sm__law_least := by
  refine ok_def (N := ["_law_numbers", "_law_part", "_law_number_here", "_law_left", "_law_right_here"]) T.d__law_least sc__law_least (fun _ _ _ _ _ _ us hl => match us, hl with | [_], _ => rfl) (fun _ _ _ _ _ _ us hl => match us, hl with | [_], _ => rfl) fun f cdv A fs s H E hq hr hgd => ?_
  have nd := sc__law_least.nd
  exact ss_cons (s_set 1 nd (d_int)) (ss_cons (s_forI PassesOwn.never rfl (g_seq (d_var 0)) (g_name 2 nd) (ss_cons (s_par 3 4 rfl nd (a_cons (d_var 1) (a_cons (g_abs T.z_abs (a_cons (d_var 2) (a_nil))) (a_nil)))) (ss_cons (s_while PassesOwn.never (t_fgt (d_var 4) (d_int)) (ss_one (s_par 3 4 rfl nd (a_cons (d_var 4) (a_cons (f_mod (g_toint T.z_int (a_cons (d_var 3) (a_nil))) (d_var 4)) (a_nil)))))) (ss_one (s_set 1 nd (d_var 3)))))) (ss_one (s_ret (g_totup T.z_tuple (a_cons (d_lc [("_law_number_here", 2)] rfl nd (g_seq (d_var 0)) (cg_name) (fun _ _ _ _ _ => pg_name (i := 2) nd rfl (by first | exact Or.inl rfl | exact Or.inr rfl)) (fun _ _ _ _ _ => ts_nil) (fun _ _ _ _ _ => f_div (d_var 2) (d_var 1)) (ok := blkOk_by (N := ["_law_numbers", "_law_part", "_law_number_here", "_law_left", "_law_right_here"]) (sc := defScope st__law_least) (by decide +kernel))) (a_nil))))))
theorem ok__law_complex (T : Tx K mg) : Ok P w K mg base 4 "_law_complex" ["_law_tank_here"] sm__law_complex := by
  refine ok_def (N := ["_law_tank_here"]) T.d__law_complex sc__law_complex (fun _ _ _ _ _ _ us hl => match us, hl with | [_], _ => rfl) (fun _ _ _ _ _ _ us hl => match us, hl with | [_], _ => rfl) fun f cdv A fs s H E hq hr hgd => ?_
  have nd := sc__law_complex.nd
  exact ss_one (s_ret (d_tup (a_cons (d_call (ok__law_number T) (hr.mono (by decide)) hgd (a_tank 0 (a_nil))) (a_cons (d_call (ok__law_number T) (hr.mono (by decide)) hgd (a_tank 0 (a_nil))) (a_nil)))))
theorem ok__law_place (T : Tx K mg) : Ok P w K mg base 4 "_law_place" ["_law_tank_here"] sm__law_place := by
  refine ok_def (N := ["_law_tank_here", "_law_size", "_law_down"]) T.d__law_place sc__law_place (fun _ _ _ _ _ _ us hl => match us, hl with | [_], _ => rfl) (fun _ _ _ _ _ _ us hl => match us, hl with | [_], _ => rfl) fun f cdv A fs s H E hq hr hgd => ?_
  have nd := sc__law_place.nd
  exact ss_cons (s_set 1 nd (d_call (ok__law_pick T) (hr.mono (by decide)) hgd (a_tank 0 (a_cons (d_tup (a_cons (d_int) (a_cons (d_int) (a_cons (d_int) (a_cons (d_int) (a_cons (d_int) (a_cons (d_int) (a_cons (d_int) (a_nil))))))))) (a_nil))))) (ss_cons (s_set 2 nd (f_add (d_int) (d_if (t_fgt (d_var 1) (d_int)) (d_call (ok__law_draw T) (hr.mono (by decide)) hgd (a_tank 0 (a_cons (d_var 1) (a_nil)))) (f_add (f_mul (d_call (ok__law_draw T) (hr.mono (by decide)) hgd (a_tank 0 (a_cons (d_int) (a_nil)))) (d_int)) (d_call (ok__law_draw T) (hr.mono (by decide)) hgd (a_tank 0 (a_cons (d_int) (a_nil)))))))) (ss_one (s_ret (d_call (ok__law_least T) (hr.mono (by decide)) hgd (a_cons (d_tup (a_cons (d_call (ok__law_number T) (hr.mono (by decide)) hgd (a_tank 0 (a_nil))) (a_cons (d_call (ok__law_number T) (hr.mono (by decide)) hgd (a_tank 0 (a_nil))) (a_cons (d_var 2) (a_nil))))) (a_nil))))))
theorem ok__law_run_more (T : Tx K mg) : OkX P w K mg base 7 "_law_run_more" ["_law_way", "_law_one", "_law_two"] se__law_run_more := by
  refine ok_defX (N := ["_law_way", "_law_one", "_law_two"]) T.d__law_run_more sc__law_run_more (fun _ _ _ _ _ _ us hl => match us, hl with | [_, _, _], _ => rfl) (fun _ _ _ _ _ _ us hl => match us, hl with | [_, _, _], _ => rfl) fun f cdv A fs s H E hq hr hgd c r W tk lk => ?_
  have nd := sc__law_run_more.nd
  exact ssx_cons (sx_if (t_feq hr (d_var 0) (d_str)) (ssx_one (sx_ret (x_call (ok_place_of T) (hr.mono (by decide)) hgd tk lk (a_cons (d_var 1) (a_cons (d_var 2) (a_nil)))))) (ssx_of (ss_nil))) (ssx_cons (sx_if (t_feq hr (d_var 0) (d_str)) (ssx_one (sx_ret (x_call (ok_sum_of T) (hr.mono (by decide)) hgd tk lk (a_cons (d_var 1) (a_cons (d_var 2) (a_nil)))))) (ssx_of (ss_nil))) (ssx_cons (sx_if (t_feq hr (d_var 0) (d_str)) (ssx_one (sx_ret (x_call (ok_difference_of T) (hr.mono (by decide)) hgd tk lk (a_cons (d_var 1) (a_cons (d_var 2) (a_nil)))))) (ssx_of (ss_nil))) (ssx_cons (sx_if (t_feq hr (d_var 0) (d_str)) (ssx_one (sx_ret (x_call (ok_product_of T) (hr.mono (by decide)) hgd tk lk (a_cons (d_var 1) (a_cons (d_var 2) (a_nil)))))) (ssx_of (ss_nil))) (ssx_one (sx_ret (x_if (t_feq hr (d_var 0) (d_str)) (x_call (ok_quotient_of T) (hr.mono (by decide)) hgd tk lk (a_cons (d_var 1) (a_cons (d_var 2) (a_nil)))) (x_call (ok_distance_of T) (hr.mono (by decide)) hgd tk lk (a_cons (d_var 1) (a_cons (d_var 2) (a_nil))))))))))
theorem ok__law_run (T : Tx K mg) : OkX P w K mg base 8 "_law_run" ["_law_way", "_law_one", "_law_two"] se__law_run := by
  refine ok_defX (N := ["_law_way", "_law_one", "_law_two"]) T.d__law_run sc__law_run (fun _ _ _ _ _ _ us hl => match us, hl with | [_, _, _], _ => rfl) (fun _ _ _ _ _ _ us hl => match us, hl with | [_, _, _], _ => rfl) fun f cdv A fs s H E hq hr hgd c r W tk lk => ?_
  have nd := sc__law_run.nd
  exact ssx_cons (sx_if (t_feq hr (d_var 0) (d_str)) (ssx_one (sx_ret (x_call (ok_added T) (hr.mono (by decide)) hgd tk lk (a_cons (d_var 1) (a_cons (d_var 2) (a_nil)))))) (ssx_of (ss_nil))) (ssx_cons (sx_if (t_feq hr (d_var 0) (d_str)) (ssx_one (sx_ret (x_call (ok_subtracted T) (hr.mono (by decide)) hgd tk lk (a_cons (d_var 1) (a_cons (d_var 2) (a_nil)))))) (ssx_of (ss_nil))) (ssx_cons (sx_if (t_feq hr (d_var 0) (d_str)) (ssx_one (sx_ret (x_call (ok_product T) (hr.mono (by decide)) hgd tk lk (a_cons (d_var 1) (a_cons (d_var 2) (a_nil)))))) (ssx_of (ss_nil))) (ssx_cons (sx_if (t_feq hr (d_var 0) (d_str)) (ssx_one (sx_ret (x_call (ok_quotient T) (hr.mono (by decide)) hgd tk lk (a_cons (d_var 1) (a_cons (d_var 2) (a_nil)))))) (ssx_of (ss_nil))) (ssx_cons (sx_if (t_feq hr (d_var 0) (d_str)) (ssx_one (sx_ret (x_call (ok_conjugate T) (hr.mono (by decide)) hgd tk lk (a_cons (d_var 1) (a_nil))))) (ssx_of (ss_nil))) (ssx_cons (sx_if (t_feq hr (d_var 0) (d_str)) (ssx_one (sx_ret (x_call (ok_norm T) (hr.mono (by decide)) hgd tk lk (a_cons (d_var 1) (a_nil))))) (ssx_of (ss_nil))) (ssx_cons (sx_if (t_feq hr (d_var 0) (d_str)) (ssx_one (sx_ret (x_call (ok_quarter_form T) (hr.mono (by decide)) hgd tk lk (a_cons (d_var 1) (a_nil))))) (ssx_of (ss_nil))) (ssx_cons (sx_if (t_feq hr (d_var 0) (d_str)) (ssx_one (sx_ret (x_call (ok_root_of T) (hr.mono (by decide)) hgd tk lk (a_cons (d_var 1) (a_nil))))) (ssx_of (ss_nil))) (ssx_one (sx_ret (x_if (t_feq hr (d_var 0) (d_str)) (x_call (ok_common_divisor T) (hr.mono (by decide)) hgd tk lk (a_cons (d_var 1) (a_nil))) (x_call (ok__law_run_more T) (hr.mono (by decide)) hgd tk lk (a_cons (d_var 0) (a_cons (d_var 1) (a_cons (d_var 2) (a_nil)))))))))))))))
theorem ok__law_met (T : Tx K mg) : Ok P w K mg base 9 "_law_met" ["_law_way", "_law_one", "_law_two"] sm__law_met := by
  obtain ⟨C_ArmError, x_ArmError⟩ := T.x_ArmError
  obtain ⟨D_InvalidNumber, n_InvalidNumber, i_InvalidNumber⟩ := T.io_InvalidNumber
  obtain ⟨D_InvalidPlace, n_InvalidPlace, i_InvalidPlace⟩ := T.io_InvalidPlace
  obtain ⟨D_NoPlace, n_NoPlace, i_NoPlace⟩ := T.io_NoPlace
  obtain ⟨D_InvalidRatio, n_InvalidRatio, i_InvalidRatio⟩ := T.io_InvalidRatio
  obtain ⟨D_InvalidNumbers, n_InvalidNumbers, i_InvalidNumbers⟩ := T.io_InvalidNumbers
  obtain ⟨D_InvalidComplex, n_InvalidComplex, i_InvalidComplex⟩ := T.io_InvalidComplex
  refine ok_def (N := ["_law_way", "_law_one", "_law_two", "e", "_law_sorts"]) T.d__law_met sc__law_met (fun _ _ _ _ _ _ us hl => match us, hl with | [_, _, _], _ => rfl) (fun _ _ _ _ _ _ us hl => match us, hl with | [_, _, _], _ => rfl) fun f cdv A fs s H E hq hr hgd => ?_
  have nd := sc__law_met.nd
  have hu := room66 hr
  exact ss_cons (s_tryA (i := 3) rfl rfl nd rfl rfl ⟨rfl, by decide, .inl x_ArmError.gC⟩ (T.m_ArmError _ x_ArmError.gC) (fun c r W pn xe tk lk => ssx_one (sx_expr (x_call (ok__law_run T) (hr.mono (by decide)) hgd tk lk (a_cons (d_var 0) (a_cons (d_var 1) (a_cons (d_var 2) (a_nil))))))) (fun e a oe cls d pn hz hf hm => ss_cons (s_set 4 nd (d_lst (a_cons (d_isO 3 n_InvalidComplex (i_InvalidComplex _ _ hm) hz hf T.z_isinstance) (a_cons (d_isO 3 n_InvalidNumbers (i_InvalidNumbers _ _ hm) hz hf T.z_isinstance) (a_cons (d_isO 3 n_InvalidRatio (i_InvalidRatio _ _ hm) hz hf T.z_isinstance) (a_cons (d_isO 3 n_NoPlace (i_NoPlace _ _ hm) hz hf T.z_isinstance) (a_cons (d_isO 3 n_InvalidPlace (i_InvalidPlace _ _ hm) hz hf T.z_isinstance) (a_cons (d_isO 3 n_InvalidNumber (i_InvalidNumber _ _ hm) hz hf T.z_isinstance) (a_nil))))))))) (ss_cons (s_if ((d_wor (t_fneU hu (d_cntT hu (d_var 4) (d_bl)) (d_int)) (d_wor (d_tnot (d_tst (d_isB 3 T.z_ValueError (T.ib_ValueError _ _ hm) hz hf T.z_isinstance))) (d_wor (d_tst (f_ix (d_var 4) (d_int))) (d_w1o (d_tst (f_ix (d_var 4) (d_int))))))).pt) (ss_one (s_ret (d_lst (a_cons (d_str) (a_cons (d_non) (a_nil)))))) (ss_nil)) (ss_cons (s_if (d_tst (f_ix (d_var 4) (d_int))) (ss_one (s_ret (d_lst (a_cons (d_str) (a_cons (d_non) (a_nil)))))) (ss_nil)) (ss_one (s_ret (d_lst (a_cons (f_ix (d_tup (a_cons (d_str) (a_cons (d_str) (a_cons (d_str) (a_nil))))) (d_idxT hu (d_var 4) (d_bl))) (a_cons (d_giv 3 (T.g_given _ _ hm) hz hf) (a_nil)))))))))) (ss_one (s_ret (d_lst (a_cons (d_str) (a_cons (d_non) (a_nil))))))
theorem ok__law_odd (T : Tx K mg) : Ok P w K mg base 3 "_law_odd" ["_law_tank_here"] sm__law_odd := by
  refine ok_def (N := ["_law_tank_here"]) T.d__law_odd sc__law_odd (fun _ _ _ _ _ _ us hl => match us, hl with | [_], _ => rfl) (fun _ _ _ _ _ _ us hl => match us, hl with | [_], _ => rfl) fun f cdv A fs s H E hq hr hgd => ?_
  have nd := sc__law_odd.nd
  exact ss_one (s_ret (d_call (ok__law_pick T) (hr.mono (by decide)) hgd (a_tank 0 (a_cons (d_tup (a_cons (d_non) (a_cons (d_int) (a_cons (d_bl) (a_cons (d_str) (a_cons (d_str) (a_cons (d_tup (a_nil)) (a_cons (d_tup (a_cons (d_int) (a_nil))) (a_cons (d_lst (a_cons (d_int) (a_cons (d_int) (a_nil)))) (a_cons (d_tup (a_cons (d_int) (a_cons (d_int) (a_cons (d_int) (a_cons (d_int) (a_nil)))))) (a_cons (d_tup (a_cons (d_bl) (a_cons (d_int) (a_nil)))) (a_cons (d_tup (a_cons (d_int) (a_cons (d_non) (a_nil)))) (a_cons (d_tup (a_cons (d_str) (a_cons (d_int) (a_nil)))) (a_cons (d_tup (a_cons (d_int) (a_cons (d_int) (a_cons (d_int) (a_nil))))) (a_cons (d_tup (a_cons (d_int) (a_cons (d_int) (a_cons (d_int) (a_nil))))) (a_cons (d_tup (a_cons (d_int) (a_cons (d_int) (a_cons (d_int) (a_nil))))) (a_cons (d_tup (a_cons (d_int) (a_cons (d_int) (a_cons (d_neg (d_int)) (a_nil))))) (a_cons (d_tup (a_cons (d_neg (d_int)) (a_cons (d_int) (a_cons (d_int) (a_nil))))) (a_cons (d_tup (a_cons (d_int) (a_cons (d_int) (a_cons (d_int) (a_nil))))) (a_cons (d_tup (a_cons (d_int) (a_cons (d_int) (a_cons (d_bl) (a_nil))))) (a_cons (d_tup (a_cons (d_tup (a_cons (d_int) (a_cons (d_int) (a_nil)))) (a_cons (d_int) (a_nil)))) (a_cons (d_dct0) (a_cons (d_lst (a_cons (d_int) (a_cons (d_int) (a_cons (d_int) (a_nil))))) (a_nil)))))))))))))))))))))))) (a_nil)))))
theorem ok__law_wrong (T : Tx K mg) : Ok P w K mg base 5 "_law_wrong" ["_law_tank_here"] sm__law_wrong := by
  refine ok_def (N := ["_law_tank_here", "_law_row", "_law_turn", "_law_at", "_law_odd_here", "_law_some"]) T.d__law_wrong sc__law_wrong (fun _ _ _ _ _ _ us hl => match us, hl with | [_], _ => rfl) (fun _ _ _ _ _ _ us hl => match us, hl with | [_], _ => rfl) fun f cdv A fs s H E hq hr hgd => ?_
  have nd := sc__law_wrong.nd
  exact ss_cons (s_set 1 nd (f_add (g_totup T.z_tuple (a_cons (d_lc [("_law_turn", 2)] rfl nd (i_range1 T.z_range (a_cons (f_add (d_int) (d_call (ok__law_draw T) (hr.mono (by decide)) hgd (a_tank 0 (a_cons (d_int) (a_nil))))) (a_nil))) (cg_name) (fun _ _ _ _ _ => pg_name (i := 2) nd rfl (by first | exact Or.inl rfl | exact Or.inr rfl)) (fun _ _ _ _ _ => ts_nil) (fun _ _ _ _ _ => d_call (ok__law_complex T) (hr.mono (by decide)) hgd (a_tank 0 (a_nil))) (ok := blkOk_by (N := ["_law_tank_here", "_law_row", "_law_turn", "_law_at", "_law_odd_here", "_law_some"]) (sc := defScope st__law_wrong) (by decide +kernel))) (a_nil))) (d_tup (a_cons (d_tup (a_cons (d_int) (a_cons (d_int) (a_nil)))) (a_nil))))) (ss_cons (s_par 3 4 rfl nd (a_cons (d_call (ok__law_draw T) (hr.mono (by decide)) hgd (a_tank 0 (a_cons (g_len T.z_len (a_cons (d_var 1) (a_nil))) (a_nil)))) (a_cons (d_call (ok__law_odd T) (hr.mono (by decide)) hgd (a_tank 0 (a_nil))) (a_nil)))) (ss_cons (s_set 5 nd (d_tup (a_cons (f_add (f_add (g_slice (d_var 1) p_none (p_some (d_var 3))) (d_tup (a_cons (d_var 4) (a_nil)))) (g_slice (d_var 1) (p_some (f_add (d_var 3) (d_int))) p_none)) (a_cons (d_tup (a_nil)) (a_cons (g_tolist T.z_list (a_cons (d_var 1) (a_nil))) (a_cons (f_mulU (d_tup (a_cons (d_tup (a_cons (d_int) (a_cons (d_int) (a_nil)))) (a_nil))) (g_len T.z_len (a_cons (d_var 1) (a_nil)))) (a_cons (f_add (d_var 1) (f_mulU (d_tup (a_cons (d_tup (a_cons (d_int) (a_cons (d_int) (a_nil)))) (a_nil))) (f_sub (d_int) (g_len T.z_len (a_cons (d_var 1) (a_nil)))))) (a_cons (d_var 4) (a_cons (f_ix (d_var 1) (d_int)) (a_nil)))))))))) (ss_one (s_ret (d_call (ok__law_pick T) (hr.mono (by decide)) hgd (a_tank 0 (a_cons (d_var 5) (a_nil))))))))
theorem ok__law_zero (T : Tx K mg) : Ok P w K mg base 1 "_law_zero" ["_law_place_here"] sm__law_zero := by
  refine ok_def (N := ["_law_place_here"]) T.d__law_zero sc__law_zero (fun _ _ _ _ _ _ us hl => match us, hl with | [_], _ => rfl) (fun _ _ _ _ _ _ us hl => match us, hl with | [_], _ => rfl) fun f cdv A fs s H E hq hr hgd => ?_
  have nd := sc__law_zero.nd
  exact ss_one (s_ret (d_if (t_feq hr (d_var 0) (d_tup (a_cons (d_int) (a_cons (d_int) (a_cons (d_int) (a_nil)))))) (d_str) (d_str)))
theorem ok__law_cases (T : Tx K mg) : Ok P w K mg base 6 "_law_cases" ["_law_tank_here"] sm__law_cases := by
  refine ok_def (N := ["_law_tank_here", "_law_one", "_law_two", "_law_odd_here", "_law_other", "_law_here", "_law_there", "_law_far", "_law_wrong_here", "_law_found", "_law_way"]) T.d__law_cases sc__law_cases (fun _ _ _ _ _ _ us hl => match us, hl with | [_], _ => rfl) (fun _ _ _ _ _ _ us hl => match us, hl with | [_], _ => rfl) fun f cdv A fs s H E hq hr hgd => ?_
  have nd := sc__law_cases.nd
  exact ss_cons (s_asg (d_tup (a_cons (d_call (ok__law_complex T) (hr.mono (by decide)) hgd (a_tank 0 (a_nil))) (a_cons (d_call (ok__law_complex T) (hr.mono (by decide)) hgd (a_tank 0 (a_nil))) (a_cons (d_call (ok__law_odd T) (hr.mono (by decide)) hgd (a_tank 0 (a_nil))) (a_cons (d_call (ok__law_odd T) (hr.mono (by decide)) hgd (a_tank 0 (a_nil))) (a_nil)))))) (g_unp rfl (gs_cons (g_name 1 nd) (gs_cons (g_name 2 nd) (gs_cons (g_name 3 nd) (gs_cons (g_name 4 nd) (gs_nil))))))) (ss_cons (s_asg (d_tup (a_cons (d_call (ok__law_place T) (hr.mono (by decide)) hgd (a_tank 0 (a_nil))) (a_cons (d_call (ok__law_place T) (hr.mono (by decide)) hgd (a_tank 0 (a_nil))) (a_cons (d_tup (a_cons (d_int) (a_cons (d_int) (a_cons (d_int) (a_nil))))) (a_cons (d_call (ok__law_wrong T) (hr.mono (by decide)) hgd (a_tank 0 (a_nil))) (a_nil)))))) (g_unp rfl (gs_cons (g_name 5 nd) (gs_cons (g_name 6 nd) (gs_cons (g_name 7 nd) (gs_cons (g_name 8 nd) (gs_nil))))))) (ss_cons (s_set 9 nd (d_lst (a_cons (d_tup (a_cons (d_str) (a_cons (d_var 8) (a_cons (d_int) (a_cons (d_str) (a_cons (d_var 8) (a_nil))))))) (a_cons (d_tup (a_cons (d_str) (a_cons (d_tup (a_cons (d_tup (a_cons (d_int) (a_cons (d_int) (a_nil)))) (a_cons (d_tup (a_cons (d_int) (a_cons (d_int) (a_nil)))) (a_nil)))) (a_cons (d_int) (a_cons (d_str) (a_cons (d_non) (a_nil))))))) (a_nil))))) (ss_cons (s_forI PassesOwn.never rfl (g_seq (d_tup (a_cons (d_str) (a_cons (d_str) (a_cons (d_str) (a_cons (d_str) (a_cons (d_str) (a_nil)))))))) (g_name 10 nd) (ss_one (s_set 9 nd (f_add (d_var 9) (d_lst (a_cons (d_tup (a_cons (d_var 10) (a_cons (d_var 3) (a_cons (d_var 4) (a_cons (d_str) (a_cons (d_var 3) (a_nil))))))) (a_cons (d_tup (a_cons (d_var 10) (a_cons (d_var 1) (a_cons (d_var 3) (a_cons (d_str) (a_cons (d_var 3) (a_nil))))))) (a_cons (d_tup (a_cons (d_var 10) (a_cons (d_tup (a_cons (d_int) (a_cons (d_int) (a_nil)))) (a_cons (d_var 2) (a_cons (d_str) (a_cons (d_non) (a_nil))))))) (a_nil))))))))) (ss_cons (s_forI PassesOwn.never rfl (g_seq (d_tup (a_cons (d_str) (a_cons (d_str) (a_cons (d_str) (a_cons (d_str) (a_nil))))))) (g_name 10 nd) (ss_one (s_set 9 nd (f_add (d_var 9) (d_lst (a_cons (d_tup (a_cons (d_var 10) (a_cons (d_var 3) (a_cons (d_int) (a_cons (d_str) (a_cons (d_var 3) (a_nil))))))) (a_cons (d_tup (a_cons (d_var 10) (a_cons (d_var 1) (a_cons (d_int) (a_cons (d_str) (a_cons (d_non) (a_nil))))))) (a_nil)))))))) (ss_cons (s_forI PassesOwn.never rfl (g_seq (d_tup (a_cons (d_str) (a_cons (d_str) (a_cons (d_str) (a_cons (d_str) (a_cons (d_str) (a_nil)))))))) (g_name 10 nd) (ss_cons (s_set 9 nd (f_add (d_var 9) (d_lst (a_cons (d_tup (a_cons (d_var 10) (a_cons (d_var 3) (a_cons (d_var 4) (a_cons (d_str) (a_cons (d_var 3) (a_nil))))))) (a_cons (d_tup (a_cons (d_var 10) (a_cons (d_var 5) (a_cons (d_var 3) (a_cons (d_str) (a_cons (d_var 3) (a_nil))))))) (a_cons (d_tup (a_cons (d_var 10) (a_cons (d_var 7) (a_cons (d_var 4) (a_cons (d_str) (a_cons (d_var 7) (a_nil))))))) (a_nil))))))) (ss_one (s_set 9 nd (f_add (d_var 9) (d_lst (a_cons (d_tup (a_cons (d_var 10) (a_cons (d_var 5) (a_cons (d_var 7) (a_cons (d_str) (a_cons (d_var 7) (a_nil))))))) (a_cons (d_tup (a_cons (d_var 10) (a_cons (d_var 3) (a_cons (d_var 7) (a_cons (d_str) (a_cons (d_var 3) (a_nil))))))) (a_cons (d_tup (a_cons (d_var 10) (a_cons (d_var 6) (a_cons (d_tup (a_cons (d_int) (a_cons (d_int) (a_cons (d_int) (a_nil))))) (a_cons (d_str) (a_cons (d_non) (a_nil))))))) (a_nil)))))))))) (ss_cons (s_set 9 nd (f_add (d_var 9) (d_lst (a_cons (d_tup (a_cons (d_str) (a_cons (d_tup (a_cons (d_int) (a_cons (d_int) (a_nil)))) (a_cons (d_tup (a_cons (d_int) (a_cons (d_int) (a_nil)))) (a_cons (d_str) (a_cons (d_non) (a_nil))))))) (a_cons (d_tup (a_cons (d_str) (a_cons (d_var 1) (a_cons (d_tup (a_cons (d_int) (a_cons (d_int) (a_nil)))) (a_cons (d_str) (a_cons (d_non) (a_nil))))))) (a_nil)))))) (ss_cons (s_set 9 nd (f_add (d_var 9) (d_lst (a_cons (d_tup (a_cons (d_str) (a_cons (d_tup (a_cons (d_int) (a_cons (d_int) (a_nil)))) (a_cons (d_var 3) (a_cons (d_str) (a_cons (d_var 3) (a_nil))))))) (a_cons (d_tup (a_cons (d_str) (a_cons (d_tup (a_cons (d_int) (a_cons (d_int) (a_cons (d_int) (a_nil))))) (a_cons (d_var 3) (a_cons (d_str) (a_cons (d_var 3) (a_nil))))))) (a_nil)))))) (ss_one (s_ret (f_add (d_var 9) (d_lst (a_cons (d_tup (a_cons (d_str) (a_cons (d_var 5) (a_cons (d_tup (a_cons (d_int) (a_cons (d_int) (a_cons (d_int) (a_nil))))) (a_cons (d_str) (a_cons (d_non) (a_nil))))))) (a_cons (d_tup (a_cons (d_str) (a_cons (d_tup (a_cons (d_int) (a_cons (d_int) (a_cons (d_int) (a_nil))))) (a_cons (d_var 6) (a_cons (d_call (ok__law_zero T) (hr.mono (by decide)) hgd (a_cons (d_var 6) (a_nil))) (a_cons (d_non) (a_nil))))))) (a_nil))))))))))))))
theorem ok__law_right (T : Tx K mg) : Ok P w K mg base 10 "_law_right" ["_law_tank_here"] sm__law_right := by
  refine ok_def (N := ["_law_tank_here", "_law_way", "_law_one", "_law_two", "_law_word", "_law_kept"]) T.d__law_right sc__law_right (fun _ _ _ _ _ _ us hl => match us, hl with | [_], _ => rfl) (fun _ _ _ _ _ _ us hl => match us, hl with | [_], _ => rfl) fun f cdv A fs s H E hq hr hgd => ?_
  have nd := sc__law_right.nd
  exact ss_cons (s_forI PassesOwn.never rfl (g_seq (d_call (ok__law_cases T) (hr.mono (by decide)) hgd (a_tank 0 (a_nil)))) (g_unp rfl (gs_cons (g_name 1 nd) (gs_cons (g_name 2 nd) (gs_cons (g_name 3 nd) (gs_cons (g_name 4 nd) (gs_cons (g_name 5 nd) (gs_nil))))))) (ss_one (s_if (t_fne hr (g_reprG T.sysm hgd (room66 hr) T.z_repr (a_cons (d_call (ok__law_met T) (hr.mono (by decide)) hgd (a_cons (d_var 1) (a_cons (d_var 2) (a_cons (d_var 3) (a_nil))))) (a_nil))) (g_reprG T.sysm hgd (room66 hr) T.z_repr (a_cons (d_lst (a_cons (d_var 4) (a_cons (d_var 5) (a_nil)))) (a_nil)))) (ss_one (s_ret (d_bl))) (ss_nil)))) (ss_one (s_ret (d_bl)))
theorem ok_law (T : Tx K mg) : Ok P w K mg base 11 "law" ["_law_script"] sm_law := by
  refine ok_def (N := ["_law_script", "_law_spot"]) T.d_law sc_law (fun _ _ _ _ _ _ us hl => match us, hl with | [_], _ => rfl) (fun _ _ _ _ _ _ us hl => match us, hl with | [_], _ => rfl) fun f cdv A fs s H E hq hr hgd => ?_
  have nd := sc_law.nd
  exact ss_cons (s_forI PassesOwn.never rfl (i_range1 T.z_range (a_cons (d_call (ok__law_rounds T) (hr.mono (by decide)) hgd (a_cons (d_var 0) (a_nil))) (a_nil))) (g_name 1 nd) (ss_one (s_if (d_tnot (d_tst (d_callT (ok__law_right T) (ok__law_tank T) (hr.mono (by decide)) (hr.mono (by decide)) hgd (a_cons (d_var 0) (a_cons (d_var 1) (a_nil))) rfl))) (ss_one (s_ret (d_bl))) (ss_nil)))) (ss_one (s_ret (d_bl)))
end
theorem hd_tx {K : PySem.W.Frag} {mg : Str → Option Value} {h : Heap} (X : K.In h) (G : h.Ns mainGlobals mg) (c : hd.Says K) : Tx K mg := {
  d_is_whole := c.df X G 0
  d_are_wholes := c.df X G 1
  d_divisor_of := c.df X G 2
  d_lowest := c.df X G 3
  d_is_lowest := c.df X G 4
  d_fraction := c.df X G 5
  d_is_complex := c.df X G 6
  d_check_complex := c.df X G 7
  d_plus := c.df X G 8
  d_minus := c.df X G 9
  d_times := c.df X G 10
  d_turned_over := c.df X G 11
  d_square_size := c.df X G 12
  d_unit_for := c.df X G 13
  d_nearest := c.df X G 14
  d_product := c.df X G 15
  d_divisor_of_two := c.df X G 16
  d_divisor_of_all := c.df X G 17
  d_divided := c.df X G 18
  d_root := c.df X G 19
  d_added := c.df X G 20
  d_subtracted := c.df X G 21
  d_conjugate := c.df X G 22
  d_norm := c.df X G 23
  d_quarter_form := c.df X G 24
  d_quotient := c.df X G 25
  d_common_divisor := c.df X G 26
  d_root_of := c.df X G 27
  d_is_place := c.df X G 28
  d_is_ratio := c.df X G 29
  d_check_ratio := c.df X G 30
  d_quotient_place := c.df X G 31
  d_real_place := c.df X G 32
  d_place_of := c.df X G 33
  d_sum_of := c.df X G 34
  d_difference_of := c.df X G 35
  d_product_of := c.df X G 36
  d_quotient_of := c.df X G 37
  d_squared_distance := c.df X G 38
  d_distance_of := c.df X G 39
  d__law_tank := c.df X G 40
  d__law_draw := c.df X G 41
  d__law_pick := c.df X G 42
  d__law_rounds := c.df X G 43
  d__law_number := c.df X G 44
  d__law_least := c.df X G 45
  d__law_complex := c.df X G 46
  d__law_place := c.df X G 47
  d__law_run_more := c.df X G 48
  d__law_run := c.df X G 49
  d__law_met := c.df X G 50
  d__law_odd := c.df X G 51
  d__law_wrong := c.df X G 52
  d__law_zero := c.df X G 53
  d__law_cases := c.df X G 54
  d__law_right := c.df X G 55
  d_law := c.df X G 56
  z_ValueError := c.fr X G 0
  z_abs := c.fr X G 1
  z_all := c.fr X G 2
  z_bool := c.fr X G 3
  z_divmod := c.fr X G 4
  z_int := c.fr X G 5
  z_isinstance := c.fr X G 6
  z_len := c.fr X G 7
  z_list := c.fr X G 8
  z_max := c.fr X G 9
  z_min := c.fr X G 10
  z_range := c.fr X G 11
  z_repr := c.fr X G 12
  z_set := c.fr X G 13
  z_tuple := c.fr X G 14
  b_gcd := c.bf X G 0
  b_isqrt := c.bf X G 1
  c_UNITS := c.gc X G 0
  c_ZERO := c.gc X G 1
  c_MOST_NUMBERS := c.gc X G 2
  c_FAR := c.gc X G 3
  c_NOUGHT := c.gc X G 4
  x_NoPlace := c.xc X G 0
  x_ArmError := c.xc X G 1
  x1_InvalidComplex := c.xg X G 0 rfl ⟨by decide, _, _, _, _, _, _, rfl, rfl, rfl⟩
  x1_InvalidNumbers := c.xg X G 1 rfl ⟨by decide, _, _, _, _, _, _, rfl, rfl, rfl⟩
  x1_InvalidRatio := c.xg X G 2 rfl ⟨by decide, _, _, _, _, _, _, rfl, rfl, rfl⟩
  sysm := c.sy rfl
  io_InvalidNumber := c.io X G (by decide +kernel) (fun nm b q => by unfold is_InvalidNumber at q; (repeat' (split at q)); all_goals (first | (cases q; subst_vars; decide +kernel) | cases q))
  io_InvalidPlace := c.io X G (by decide +kernel) (fun nm b q => by unfold is_InvalidPlace at q; (repeat' (split at q)); all_goals (first | (cases q; subst_vars; decide +kernel) | cases q))
  io_NoPlace := c.io X G (by decide +kernel) (fun nm b q => by unfold is_NoPlace at q; (repeat' (split at q)); all_goals (first | (cases q; subst_vars; decide +kernel) | cases q))
  io_InvalidRatio := c.io X G (by decide +kernel) (fun nm b q => by unfold is_InvalidRatio at q; (repeat' (split at q)); all_goals (first | (cases q; subst_vars; decide +kernel) | cases q))
  io_InvalidNumbers := c.io X G (by decide +kernel) (fun nm b q => by unfold is_InvalidNumbers at q; (repeat' (split at q)); all_goals (first | (cases q; subst_vars; decide +kernel) | cases q))
  io_InvalidComplex := c.io X G (by decide +kernel) (fun nm b q => by unfold is_InvalidComplex at q; (repeat' (split at q)); all_goals (first | (cases q; subst_vars; decide +kernel) | cases q))
  ib_ValueError := c.ib X G (fun nm b q => by unfold is_ValueError at q; (repeat' (split at q)); all_goals (first | (cases q; subst_vars; decide +kernel) | cases q))
  g_given := fun nm cls hn q => by
    unfold gv_given at q
    split at q
    · rename_i z; subst z; obtain ⟨C, fI, t⟩ := c.xg X G 0 rfl ⟨by decide, _, _, _, _, _, _, rfl, rfl, rfl⟩; have e := t.gC; rw [hn] at e; cases e; exact ⟨_, _, _, rfl, t⟩
    split at q
    · rename_i z; subst z; obtain ⟨C, fI, t⟩ := c.xg X G 1 rfl ⟨by decide, _, _, _, _, _, _, rfl, rfl, rfl⟩; have e := t.gC; rw [hn] at e; cases e; exact ⟨_, _, _, rfl, t⟩
    split at q
    · rename_i z; subst z; obtain ⟨C, fI, t⟩ := c.xg X G 2 rfl ⟨by decide, _, _, _, _, _, _, rfl, rfl, rfl⟩; have e := t.gC; rw [hn] at e; cases e; exact ⟨_, _, _, rfl, t⟩
    cases q
  m_ArmError := c.xm X G (fun nm q => by unfold mt_ArmError at q; (repeat' (split at q)); all_goals (first | (subst_vars; decide +kernel) | cases q))
  }
private theorem forL_c {g : dG} {f : dS} {k : dEnds} {d : D} {r : List D} {ρ : En} {T : Tk} : forL g f k (d :: r) ρ T = g d ρ T fun ρ1 T1 => f { nx := forL g f k r, rt := k.rt, bk := k.nx, ct := forL g f k r } ρ1 T1 := rfl
private theorem forL_n {g : dG} {f : dS} {k : dEnds} {ρ : En} {T : Tk} : forL g f k [] ρ T = k.nx ρ T := rfl
private theorem repD_succ {xs : List D} {n : Nat} : repD xs (n + 1) = xs ++ repD xs n := by unfold repD; rw [List.replicate_succ, List.flatten_cons]
private theorem repD_zero {xs : List D} : repD xs 0 = [] := rfl
local macro_rules | `(tactic| walk_at "ev") => `(tactic| try simp (maxSteps := 2000000) only [dVar, dC, dOp, dNeg, dIsN, dNotN, dTst, dAnd, dOr, dNot, dAndV, dOrV, dNotV, dIf, aNil, aCons, aTank, aStar, dTup, dLst, vals?, oF, oG, fAdd_int, fAdd_lst, fAdd_tup, fAdd_str, fSub_int, fSub_bl, fMul_int, fMul_lst, fDiv_int, fMod_int, fPow_int, fShl_int, fLt_int, fLe_int, fGt_int, fGe_int, fEq_int, fEq_str, fEq_bl, fEq_tup, fEq_lst, fEq_tn, fEq_nt, fEq_nn,
  fNe_int, fNe_str, fNe_bl, fNe_tup, fNe_lst, fNe_tn, fNe_nt, fNe_nn, fIn_lst, fNotIn_lst, fInS_lst, fInS_tup, fNotInS_lst, fNotInS_tup, gTL, iZA, zip2_lst, zip2_tup, zipD_nil, zipD_cons, enD, iEn, sOwnC, sParC, sPar3C, gOs, sFrq, dView, dViewT, noL_int, noL_bl, noL_str, noL_non, noL_tup, noLL_nil, noLL_cons, fIx_tup, fIx_lst, fIx_scr, ixR_some, it_tup, it_lst, cutq_lst, cutq_scr, cutq_tup, dSlQ, pSome, sSeq, sRet, sExpr, sIf, sAsg, gN, gsNil, gsCons, gT, sPar, sPar3, sParO, sForI, iQ, iR1, iR2, iR3, iZ, dCall, dCallT, dBlt, fLen_tup, fLen_lst, fLen_scr, fI1_int, fI2_int, fInt_int, fInt_bl, fSqrt_isq, fDivmod_int, fAll_lst, fAny_lst, fSum_lst, blR_some, nuR_some, fTuple_lst, fTuple_tup, fList_lst, fList_tup, fList_scr, fRepr_int, fRepr_tup, fRepr_lst, dIsi, isTy, sOwn, sFrz, sApp,
  dTix, gTs, isTank, dLc, cN, cT, setAll, dYes, wipeD, no0, isNon_non, isNon_int, isNon_bl, isNon_str, isNon_tup, isNon_lst, eqD_int, eqD_str, eqD_bl, eqD_nn, eqD_ni, eqD_in, eqD_nt, eqD_tn, eqD_tup, eqD_lst, eqDL_nil, eqDL_nc, eqDL_cn, eqDL_cons, Bool.and_eq_true, List.any_cons, List.any_nil, ifT, ifF, ifA, ifO, List.length_cons, List.length_nil, List.cons_append, List.nil_append, List.getElem?_cons_zero, List.getElem?_cons_succ, List.set_cons_zero, List.set_cons_succ, Option.map_some, Nat.reduceAdd, Nat.reduceSub, atI_lit, ixN_lit, atI_m1, Nat.reduceLT, reduceIte, Nat.reduceLeDiff, true_and,
  and_true, List.append_nil, List.map_cons, List.map_nil, decide_eq_true_eq, Bool.not_eq_true', decide_eq_false_iff_not, Int.cast_ofNat_Int, Int.reduceLT, Int.reduceLE, decide_true, decide_false, Bool.false_eq_true, Bool.not_true, Bool.not_false, lcD, forL_c, forL_n, cut_none, cut_to, cut_from, cut_fromto, List.take_succ_cons, List.take_zero, List.drop_succ_cons, List.drop_zero, List.take_nil, List.drop_nil, bls_nil, bls_cons, nums_nil, nums_cons, all_nil', all_cons', any_nil', any_cons', Bool.and_true, Bool.true_and, Bool.or_false, Bool.false_or, Bool.and_false, Bool.false_and])
local macro_rules | `(tactic| walk_at "evn") => `(tactic| try simp (maxSteps := 2000000) only [dVar, dC, dOp, dNeg, dIsN, dNotN, dTst, dAnd, dOr, dNot, dAndV, dOrV, dNotV, dIf, aNil, aCons, aTank, aStar, dTup, dLst, vals?, oF, oG, fAdd_int, fAdd_lst, fAdd_tup, fAdd_str, fSub_int, fSub_bl, fMul_int, fMul_lst, fDiv_int, fMod_int, fPow_int, fShl_int, fLt_int, fLe_int, fGt_int, fGe_int, fEq_int, fEq_str, fEq_bl, fEq_tup, fEq_lst, fEq_tn, fEq_nt, fEq_nn,
  fNe_int, fNe_str, fNe_bl, fNe_tup, fNe_lst, fNe_tn, fNe_nt, fNe_nn, fIn_lst, fNotIn_lst, fInS_lst, fInS_tup, fNotInS_lst, fNotInS_tup, gTL, iZA, zip2_lst, zip2_tup, zipD_nil, zipD_cons, enD, iEn, sOwnC, sParC, sPar3C, gOs, sFrq, dView, dViewT, noL_int, noL_bl, noL_str, noL_non, noL_tup, noLL_nil, noLL_cons, fIx_tup, fIx_lst, fIx_scr, ixR_some, it_tup, it_lst, cutq_lst, cutq_scr, cutq_tup, dSlQ, pSome, sSeq, sRet, sExpr, sIf, sAsg, gN, gsNil, gsCons, gT, sPar, sPar3, sParO, sForI, iQ, iR1, iR2, iR3, iZ, dCall, dCallT, dBlt, fLen_tup, fLen_lst, fLen_scr, fI1_int, fI2_int, fInt_int, fInt_bl, fSqrt_isq, fDivmod_int, fAll_lst, fAny_lst, fSum_lst, blR_some, nuR_some, fTuple_lst, fTuple_tup, fList_lst, fList_tup, fList_scr, fRepr_int, fRepr_tup, fRepr_lst, dIsi, isTy, sOwn, sFrz, sApp,
  dTix, gTs, isTank, dLc, cN, cT, setAll, dYes, wipeD, no0, isNon_non, isNon_int, isNon_bl, isNon_str, isNon_tup, isNon_lst, eqD_int, eqD_str, eqD_bl, eqD_nn, eqD_ni, eqD_in, eqD_nt, eqD_tn, eqD_tup, eqD_lst, eqDL_nil, eqDL_nc, eqDL_cn, eqDL_cons, Bool.and_eq_true, List.any_cons, List.any_nil, ifT, ifF, ifA, ifO, List.length_cons, List.length_nil, List.cons_append, List.nil_append, List.getElem?_cons_zero, List.getElem?_cons_succ, List.set_cons_zero, List.set_cons_succ, Option.map_some, Nat.reduceAdd, Nat.reduceSub, atI_lit, ixN_lit, atI_m1, Nat.reduceLT, reduceIte, Nat.reduceLeDiff, true_and,
  and_true, List.append_nil, List.map_cons, List.map_nil, decide_eq_true_eq, Bool.not_eq_true', decide_eq_false_iff_not, Int.cast_ofNat_Int, Int.reduceLT, Int.reduceLE, decide_true, decide_false, Bool.false_eq_true, Bool.not_true, Bool.not_false, lcD, forL_c, forL_n, cut_none, cut_to, cut_from, cut_fromto, List.take_succ_cons, List.take_zero, List.drop_succ_cons, List.drop_zero, List.take_nil, List.drop_nil, bls_nil, bls_cons, nums_nil, nums_cons, all_nil', all_cons', any_nil', any_cons', Bool.and_true, Bool.true_and, Bool.or_false, Bool.false_or, Bool.and_false, Bool.false_and, intsL, Int.reduceToNat, Int.reduceAdd, Int.reduceSub, Int.reduceMul, Int.reduceMod, Int.reduceNeg, Int.reducePow, Int.reduceEq, Int.reduceNe, Int.one_mul, Int.neg_mul, ne_eq, not_true_eq_false, not_false_eq_true, repD_succ, repD_zero, Nat.reduceMul])
local macro_rules | `(tactic| walk_at "mok") => `(tactic| (apply Sz.mulOk; (repeat' (first | assumption | apply Sz.mul | apply Sz.add | apply Sz.sub | apply Sz.neg)); all_goals omega))
local macro_rules | `(tactic| walk_at "evs") => `(tactic| try simp (maxSteps := 2000000) only [dVar, dC, dOp, dNeg, dIsN, dNotN, dTst, dAnd, dOr, dNot, dAndV, dOrV, dNotV, dIf, aNil, aCons, aTank, aStar, dTup, dLst, vals?, oF, oG, fAdd_int, fAdd_lst, fAdd_tup, fAdd_str, fSub_int, fSub_bl, fMul_int, fMul_lst, fDiv_int, fMod_int, fPow_int, fShl_int, fLt_int, fLe_int, fGt_int, fGe_int, fEq_int, fEq_str, fEq_bl, fEq_tup, fEq_lst, fEq_tn, fEq_nt, fEq_nn,
  fNe_int, fNe_str, fNe_bl, fNe_tup, fNe_lst, fNe_tn, fNe_nt, fNe_nn, fIn_lst, fNotIn_lst, fInS_lst, fInS_tup, fNotInS_lst, fNotInS_tup, gTL, iZA, zip2_lst, zip2_tup, zipD_nil, zipD_cons, iEn, sOwnC, sParC, sPar3C, gOs, sFrq, dView, dViewT, noL_int, noL_bl, noL_str, noL_non, noL_tup, noLL_nil, noLL_cons, fIx_tup, fIx_lst, fIx_scr, ixR_some, it_tup, it_lst, cutq_lst, cutq_scr, cutq_tup, dSlQ, pSome, sSeq, sRet, sExpr, sIf, sAsg, gN, gsNil, gsCons, gT, sPar, sPar3, sParO, sForI, iQ, iR1, iR2, iR3, iZ, dCall, dCallT, dBlt, fLen_tup, fLen_lst, fLen_scr, fI1_int, fI2_int, fInt_int, fInt_bl, fSqrt_isq, fDivmod_int, fAll_lst, fAny_lst, fSum_lst, blR_some, nuR_some, fTuple_lst, fTuple_tup, fList_lst, fList_tup, fList_scr, fRepr_int, fRepr_tup, fRepr_lst, dIsi, isTy, sOwn, sFrz, sApp,
  dTix, gTs, isTank, dLc, cN, cT, setAll, dYes, wipeD, no0, isNon_non, isNon_int, isNon_bl, isNon_str, isNon_tup, isNon_lst, eqD_int, eqD_str, eqD_bl, eqD_nn, eqD_ni, eqD_in, eqD_nt, eqD_tn, eqD_tup, eqD_lst, eqDL_nil, eqDL_nc, eqDL_cn, eqDL_cons, Bool.and_eq_true, List.any_cons, List.any_nil, ifT, ifF, ifA, ifO, List.length_cons, List.length_nil, List.cons_append, List.nil_append, List.getElem?_cons_zero, List.getElem?_cons_succ, List.set_cons_zero, List.set_cons_succ, Option.map_some, Nat.reduceAdd, Nat.reduceSub, atI_lit, ixN_lit, atI_m1, Nat.reduceLT, reduceIte, Nat.reduceLeDiff, true_and,
  and_true, List.append_nil, List.map_cons, List.map_nil, decide_eq_true_eq, Bool.not_eq_true', decide_eq_false_iff_not, Int.cast_ofNat_Int, Int.reduceLT, Int.reduceLE, decide_true, decide_false, Bool.false_eq_true, Bool.not_true, Bool.not_false, lcD, cut_none, cut_to, cut_from, cut_fromto, List.take_succ_cons, List.take_zero, List.drop_succ_cons, List.drop_zero, List.take_nil, List.drop_nil, bls_nil, bls_cons, nums_nil, nums_cons, all_nil', all_cons', any_nil', any_cons', Bool.and_true, Bool.true_and, Bool.or_false, Bool.false_or, Bool.and_false, Bool.false_and, intsL, Int.reduceToNat, Int.reduceAdd, Int.reduceSub, Int.reduceMul, Int.reduceMod, Int.reduceNeg, Int.reducePow, Int.reduceEq, Int.reduceNe, Int.one_mul, Int.neg_mul, ne_eq, not_true_eq_false, not_false_eq_true, repD_succ, repD_zero, Nat.reduceMul])
local macro_rules | `(tactic| walk_at "evm") => `(tactic| try simp (maxSteps := 2000000) only [dVar, dC, dOp, dNeg, dIsN, dNotN, dTst, dAnd, dOr, dNot, dAndV, dOrV, dNotV, dIf, aNil, aCons, aTank, aStar, dTup, dLst, vals?, oF, oG, fAdd_int, fAdd_lst, fAdd_tup, fAdd_str, fSub_int, fSub_bl, fMul_int, fMul_lst, fDiv_int, fMod_int, fPow_int, fShl_int, fLt_int, fLe_int, fGt_int, fGe_int, fEq_int, fEq_str, fEq_bl, fEq_tup, fEq_lst, fEq_tn, fEq_nt, fEq_nn,
  fNe_int, fNe_str, fNe_bl, fNe_tup, fNe_lst, fNe_tn, fNe_nt, fNe_nn, fIn_lst, fNotIn_lst, fInS_lst, fInS_tup, fNotInS_lst, fNotInS_tup, gTL, iZA, zip2_lst, zip2_tup, zipD_nil, zipD_cons, iEn, sOwnC, sParC, sPar3C, gOs, sFrq, dView, dViewT, noL_int, noL_bl, noL_str, noL_non, noL_tup, noLL_nil, noLL_cons, fIx_tup, fIx_lst, fIx_scr, ixR_some, it_tup, it_lst, cutq_lst, cutq_scr, cutq_tup, dSlQ, pSome, sSeq, sRet, sExpr, sIf, sAsg, gN, gsNil, gsCons, gT, sPar, sPar3, sParO, sForI, iQ, iR1, iR2, iR3, iZ, dCall, dCallT, dBlt, fLen_tup, fLen_lst, fLen_scr, fI1_int, fI2_int, fInt_int, fInt_bl, fSqrt_isq, fDivmod_int, fAll_lst, fAny_lst, fSum_lst, blR_some, nuR_some, fTuple_lst, fTuple_tup, fList_lst, fList_tup, fList_scr, fRepr_int, fRepr_tup, fRepr_lst, dIsi, isTy, sOwn, sFrz, sApp,
  dTix, gTs, isTank, dLc, cN, cT, setAll, dYes, wipeD, no0, isNon_non, isNon_int, isNon_bl, isNon_str, isNon_tup, isNon_lst, eqD_int, eqD_str, eqD_bl, eqD_nn, eqD_ni, eqD_in, eqD_nt, eqD_tn, eqD_tup, eqD_lst, eqDL_nil, eqDL_nc, eqDL_cn, eqDL_cons, Bool.and_eq_true, List.any_cons, List.any_nil, ifT, ifF, ifA, ifO, List.length_cons, List.length_nil, List.cons_append, List.nil_append, List.getElem?_cons_zero, List.getElem?_cons_succ, List.set_cons_zero, List.set_cons_succ, Option.map_some, Nat.reduceAdd, Nat.reduceSub, atI_lit, ixN_lit, atI_m1, Nat.reduceLT, reduceIte, Nat.reduceLeDiff, true_and,
  and_true, List.append_nil, List.map_cons, List.map_nil, decide_eq_true_eq, Bool.not_eq_true', decide_eq_false_iff_not, Int.cast_ofNat_Int, Int.reduceLT, Int.reduceLE, decide_true, decide_false, Bool.false_eq_true, Bool.not_true, Bool.not_false, cut_none, cut_to, cut_from, cut_fromto, List.take_succ_cons, List.take_zero, List.drop_succ_cons, List.drop_zero, List.take_nil, List.drop_nil, bls_nil, bls_cons, nums_nil, nums_cons, all_nil', all_cons', any_nil', any_cons', Bool.and_true, Bool.true_and, Bool.or_false, Bool.false_or, Bool.and_false, Bool.false_and, intsL, Int.reduceToNat, Int.reduceAdd, Int.reduceSub, Int.reduceMul, Int.reduceMod, Int.reduceNeg, Int.reducePow, Int.reduceEq, Int.reduceNe, Int.one_mul, Int.neg_mul, ne_eq, not_true_eq_false, not_false_eq_true, repD_succ, repD_zero, Nat.reduceMul])
local macro_rules | `(tactic| walk_at "evq") => `(tactic| try simp (maxSteps := 2000000) only [dVar, dC, dOp, dNeg, dIsN, dNotN, dTst, dAnd, dOr, dNot, dAndV, dOrV, dNotV, dIf, aNil, aCons, aTank, aStar, dTup, dLst, vals?, oF, oG, fAdd_int, fAdd_lst, fAdd_tup, fAdd_str, fSub_int, fSub_bl, fMul_int, fMul_lst, fDiv_int, fMod_int, fPow_int, fShl_int, fLt_int, fLe_int, fGt_int, fGe_int, fEq_int, fEq_str, fEq_bl, fEq_tup, fEq_lst, fEq_tn, fEq_nt, fEq_nn,
  fNe_int, fNe_str, fNe_bl, fNe_tup, fNe_lst, fNe_tn, fNe_nt, fNe_nn, fIn_lst, fNotIn_lst, fInS_lst, fInS_tup, fNotInS_lst, fNotInS_tup, gTL, iZA, zip2_lst, zip2_tup, zipD_nil, zipD_cons, iEn, sOwnC, sParC, sPar3C, gOs, sFrq, dView, dViewT, noL_int, noL_bl, noL_str, noL_non, noL_tup, noLL_nil, noLL_cons, fIx_tup, fIx_lst, fIx_scr, ixR_some, it_tup, it_lst, cutq_lst, cutq_scr, cutq_tup, dSlQ, pSome, sSeq, sRet, sExpr, sIf, sAsg, gN, gsNil, gsCons, gT, sPar, sPar3, sParO, sForI, iQ, iR1, iR2, iR3, iZ, dCall, dCallT, dBlt, fLen_tup, fLen_lst, fLen_scr, fI1_int, fI2_int, fInt_int, fInt_bl, fSqrt_isq, fDivmod_int, fAll_lst, fAny_lst, fSum_lst, blR_some, nuR_some, fTuple_lst, fTuple_tup, fList_lst, fList_tup, fList_scr, fRepr_int, fRepr_tup, fRepr_lst, dIsi, isTy, sOwn, sFrz, sApp,
  dTix, gTs, isTank, dLc, cN, cT, setAll, dYes, wipeD, no0, isNon_non, isNon_int, isNon_bl, isNon_str, isNon_tup, isNon_lst, eqD_int, eqD_str, eqD_bl, eqD_nn, eqD_ni, eqD_in, eqD_nt, eqD_tn, eqD_tup, eqD_lst, eqDL_nil, eqDL_nc, eqDL_cn, eqDL_cons, Bool.and_eq_true, List.any_cons, List.any_nil, ifT, ifF, ifA, ifO, List.length_cons, List.length_nil, List.cons_append, List.nil_append, List.getElem?_cons_zero, List.getElem?_cons_succ, List.set_cons_zero, List.set_cons_succ, Option.map_some, Nat.reduceAdd, Nat.reduceSub, atI_lit, ixN_lit, atI_m1, Nat.reduceLT, reduceIte, Nat.reduceLeDiff, true_and,
  and_true, List.append_nil, List.map_cons, List.map_nil, decide_eq_true_eq, Bool.not_eq_true', decide_eq_false_iff_not, Int.cast_ofNat_Int, Int.reduceLT, Int.reduceLE, decide_true, decide_false, Bool.false_eq_true, Bool.not_true, Bool.not_false, cut_none, cut_to, cut_from, cut_fromto, List.take_succ_cons, List.take_zero, List.drop_succ_cons, List.drop_zero, List.take_nil, List.drop_nil, bls_nil, bls_cons, nums_nil, nums_cons, all_nil', all_cons', any_nil', any_cons', Bool.and_true, Bool.true_and, Bool.or_false, Bool.false_or, Bool.and_false, Bool.false_and, Int.reduceAdd, Int.reduceSub, Int.reduceMul, Int.reduceMod, Int.reduceNeg, Int.reducePow, Int.reduceEq, Int.reduceNe, Int.one_mul, Int.neg_mul, ne_eq, not_true_eq_false, not_false_eq_true, repD_succ, repD_zero, Nat.reduceMul])
local macro_rules | `(tactic| walk_at "wk") => `(tactic| (try simp (maxSteps := 2000000) (dsimp := false) (implicitDefEqProofs := false) only [↓h_var, ↓h_c, ↓h_op, ↓h_neg, ↓h_isN, ↓h_notN, ↓h_tst, ↓h_and, ↓h_or, ↓h_not, ↓h_andV, ↓h_orV, ↓h_notV, ↓h_if, ↓h_anil, ↓h_acons, ↓h_atank, ↓h_astar, ↓h_tup, ↓h_lst, ↓h_call, ↓h_callX, ↓h_tupIx, ↓h_raise1, ↓h_raise0, ↓h_isE, ↓h_givE, ↓h_mt, ↓h_callT, ↓h_callP, ↓h_aApp, ↓h_blt, ↓h_psome, ↓h_slq, ↓h_rev, ↓h_stp, ↓h_dct0, ↓h_dct1, ↓h_isi, ↓h_iQ, ↓h_iR1, ↓h_iR2, ↓h_iR3, ↓h_iZA, ↓h_iZ3, ↓h_iEn, ↓h_seq, ↓h_ret, ↓h_expr, ↓h_sif, ↓h_asg, ↓h_gN, ↓h_gsnil, ↓h_gscons, ↓h_gTL, ↓h_gT, ↓h_par, ↓h_par3, ↓h_parO, ↓h_parF, ↓h_parC, ↓h_par3C, ↓h_own, ↓h_ownC, ↓h_frz, ↓h_frq, ↓h_app, ↓h_view, ↓h_viewT, ↓h_gOs, ↓h_for, ↓h_lc, ↓h_lcO, ↓h_yes, ↓h_getT, ↓h_lenSet, ↓h_setEq, ↓h_chn, ↓h_aug, ↓h_vVal, ↓h_vLst, ↓h_vLc, ↓h_setV, ↓h_par2V, ↓h_par3V, ↓h_ins, ↓h_unpP, ↓h_pixT, ↓h_lam, ↓h_callXP, ↓h_tupP, ↓h_pix, ↓oF_pd, ↓orVK_t, ↓andVK_f, ↓orK_t, ↓andK_f, augK_int, hid_nil, hid_c, hidS_val, hidS_own, hidS_tank, hidS_none, hidS_ptup, varK_pt, tuPK_go, pixK_go, varK_go, tixK_go, exK_0, exK_1, gvK_1, mtK_go, raiK_go, iteB_t, iteB_f, iteB_not, iteB_tt, setE_go, pdK_c, pdK_t, negK_go, bolK_go, tstK_go, andK_t, andK_f, andK_p, andK_q, orK_t, orK_f, orK_p, orK_q, andVK_t, andVK_f, andVK_p, andVK_q, orVK_t, orVK_f, orVK_p, orVK_q, notVK_go, tnkK_go, sqK_go, vals_val, vals_nil, callN_go, callP_go, lstK_go, opK_go, intK_go, blqK_go, r1K_go, r2K_go, r3K_go, zpK_go, zp3K_go, parK_go, parK3_go, ownK_o, ownK_v, ownK_n, natK_go, forK_nil, forK_cons, lcK_nil, lcK_cons, enK_go, h_cN, h_cT, h_cP, cpB_some, setAll_nil, setAll_cons, wipe_nil, wipe_cons, okN_t, okN_non, okN_int, okN_bl, okN_tup, okN_lst, okL_nil, okL_cons, fMinT_tup, mnT_some, stp_tup, stp3_4, tupN_tup, getK_some, fReprE_lst, fReprG_lst, fNeE_lst, fMulU_tup, List.isEmpty_cons, List.isEmpty_nil, fReprE_tup, fReprE_int, fReprE_bl, fReprE_non, fCntT_lst, fIdxT_lst, cntC_some, idxC_some, ixR2_some, idxI_t, idxI_f, cntT_nil, cntT_t, cntT_f, fSortT_lst, stR_some, tups_nil, tups_c, tpC_some, fBitL_int, permL_n, permL_c, pmC_s, fMaxL_lst, mxR_some, isTy_dct, isNon_dct, fIs_bl, fIsn_bl, bIs_t, bIs_f, bIs_s, rev_lst, rev_tup, rev_scr, List.reverse_cons, List.reverse_nil, fAdd_int, fAdd_lst, fAdd_tup, fAdd_str, fSub_int, fSub_bl, fMul_int, fMul_lst, fDiv_int, fMod_int, fPow_int, fShl_int, fLt_int, fLe_int, fGt_int, fGe_int, fEq_int, fEq_str, fEq_bl, fEq_tup, fEq_lst, fEq_tn, fEq_nt, fEq_nn, fEq_it, fEq_ti, fEq_in, fEq_ni, fNe_in, fNe_ni, fNe_int, fNe_str, fNe_bl, fNe_tup, fNe_lst, fNe_tn, fNe_nt, fNe_nn, fInS_lst, fInS_tup, fNotInS_lst, fNotInS_tup, zip2_lst, zip2_tup, zip3_tup, zipD3_cons, zipD3_nil, zipD_nil, zipD_cons, enD, noL_int, noL_bl, noL_str, noL_non, noL_tup, noLL_nil, noLL_cons, fIx_tup, fIx_lst, fIx_scr, ixR_some, it_tup, it_lst, cutq_lst, cutq_scr, cutq_tup, fLen_tup, fLen_lst, fLen_scr, fI1_int, fI2_int, fInt_int, fInt_bl, fSqrt_isq, fDivmod_int, fAll_lst, fAny_lst, fSum_lst, blR_some, nuR_some, fTuple_lst, fTuple_tup, fList_lst, fList_tup, fList_scr, fRepr_int, fRepr_bl, fRepr_non, fRepr_tup, fRepr_lst, isTy, isNon_non, isNon_int, isNon_bl, isNon_str, isNon_tup, isNon_lst, eqD_int, eqD_str, eqD_bl, eqD_nn, eqD_ni, eqD_in, eqD_nt, eqD_tn, eqD_tup, eqD_lst, eqDL_nil, eqDL_nc, eqDL_cn, eqDL_cons, List.any_cons, List.any_nil, List.length_cons, List.length_nil, List.cons_append, List.nil_append, List.getElem?_cons_zero, List.getElem?_cons_succ, List.set_cons_zero, List.set_cons_succ, Option.map_some, Nat.reduceAdd, Nat.reduceSub, atI_lit, ixN_lit, atI_m1, Nat.reduceLT, reduceIte, Nat.reduceLeDiff, true_and, and_true, List.append_nil, List.map_cons, List.map_nil, Bool.not_eq_true', Int.cast_ofNat_Int, Int.reduceLT, Int.reduceLE, decide_true, decide_false, Bool.false_eq_true, Bool.not_true, Bool.not_false, cut_none, cut_to, cut_from, cut_fromto, List.take_succ_cons, List.take_zero, List.drop_succ_cons, List.drop_zero, List.take_nil, List.drop_nil, bls_nil, bls_cons, nums_nil, nums_cons, all_nil', all_cons', any_nil', any_cons', Bool.and_true, Bool.true_and, Bool.or_false, Bool.false_or, Bool.and_false, Bool.false_and, Bool.true_or, Bool.or_true, Int.reduceToNat, Int.reduceAdd, Int.reduceSub, Int.reduceMul, Int.reduceMod, Int.reduceNeg, Int.reducePow, Int.reduceEq, Int.reduceNe, Int.one_mul, Int.neg_mul, ne_eq, not_true_eq_false, not_false_eq_true, repD_succ, repD_zero, Nat.reduceMul, Bool.not_not, eq_self, and_self, false_implies, true_implies, implies_true, Nat.reduceEqDiff]); try rewrite [callS_eq]; try (refine lamK_in ?_))
local macro_rules | `(tactic| walk_at "wki") => `(tactic| (try simp (maxSteps := 2000000) (dsimp := false) (implicitDefEqProofs := false) only [↓h_var, ↓h_c, ↓h_op, ↓h_neg, ↓h_isN, ↓h_notN, ↓h_tst, ↓h_and, ↓h_or, ↓h_not, ↓h_andV, ↓h_orV, ↓h_notV, ↓h_if, ↓h_anil, ↓h_acons, ↓h_atank, ↓h_astar, ↓h_tup, ↓h_lst, ↓h_call, ↓h_callX, ↓h_tupIx, ↓h_raise1, ↓h_raise0, ↓h_isE, ↓h_givE, ↓h_mt, ↓h_callT, ↓h_callP, ↓h_aApp, ↓h_blt, ↓h_psome, ↓h_slq, ↓h_rev, ↓h_stp, ↓h_dct0, ↓h_dct1, ↓h_isi, ↓h_iQ, ↓h_iR1, ↓h_iR2, ↓h_iR3, ↓h_iZA, ↓h_iZ3, ↓h_iEn, ↓h_seq, ↓h_ret, ↓h_expr, ↓h_sif, ↓h_asg, ↓h_gN, ↓h_gsnil, ↓h_gscons, ↓h_gTL, ↓h_gT, ↓h_par, ↓h_par3, ↓h_parO, ↓h_parF, ↓h_parC, ↓h_par3C, ↓h_own, ↓h_ownC, ↓h_frz, ↓h_frq, ↓h_app, ↓h_view, ↓h_viewT, ↓h_gOs, ↓h_for, ↓h_lc, ↓h_lcO, ↓h_yes, ↓h_getT, ↓h_lenSet, ↓h_setEq, ↓h_chn, ↓h_aug, ↓h_vVal, ↓h_vLst, ↓h_vLc, ↓h_setV, ↓h_par2V, ↓h_par3V, ↓h_ins, ↓h_unpP, ↓h_pixT, ↓h_lam, ↓h_callXP, ↓h_tupP, ↓h_pix, ↓oF_pd, ↓orVK_t, ↓andVK_f, ↓orK_t, ↓andK_f, augK_int, hid_nil, hid_c, hidS_val, hidS_own, hidS_tank, hidS_none, hidS_ptup, varK_pt, tuPK_go, pixK_go, varK_go, tixK_go, exK_0, exK_1, gvK_1, mtK_go, raiK_go, iteB_t, iteB_f, iteB_not, iteB_tt, setE_go, pdK_c, pdK_t, negK_go, bolK_go, tstK_go, andK_t, andK_f, andK_p, andK_q, orK_t, orK_f, orK_p, orK_q, andVK_t, andVK_f, andVK_p, andVK_q, orVK_t, orVK_f, orVK_p, orVK_q, notVK_go, tnkK_go, sqK_go, vals_val, vals_nil, callN_go, callP_go, lstK_go, opK_go, intK_go, blqK_go, r1K_go, r2K_go, r3K_go, zpK_go, zp3K_go, parK_go, parK3_go, ownK_o, ownK_v, ownK_n, natK_go, forK_nil, forK_cons, lcK_nil, lcK_cons, enK_go, h_cN, h_cT, h_cP, cpB_some, setAll_nil, setAll_cons, wipe_nil, wipe_cons, okN_t, okN_non, okN_int, okN_bl, okN_tup, okN_lst, okL_nil, okL_cons, fMinT_tup, mnT_some, stp_tup, stp3_4, tupN_tup, getK_some, fReprE_lst, fReprG_lst, fNeE_lst, fMulU_tup, List.isEmpty_cons, List.isEmpty_nil, fReprE_tup, fReprE_int, fReprE_bl, fReprE_non, fCntT_lst, fIdxT_lst, cntC_some, idxC_some, ixR2_some, idxI_t, idxI_f, cntT_nil, cntT_t, cntT_f, fSortT_lst, stR_some, tups_nil, tups_c, tpC_some, fBitL_int, permL_n, permL_c, pmC_s, fMaxL_lst, mxR_some, isTy_dct, isNon_dct, fIs_bl, fIsn_bl, bIs_t, bIs_f, bIs_s, rev_lst, rev_tup, rev_scr, List.reverse_cons, List.reverse_nil, fAdd_int, fAdd_lst, fAdd_tup, fAdd_str, fSub_int, fSub_bl, fMul_int, fMul_lst, fDiv_int, fMod_int, fPow_int, fShl_int, fLt_int, fLe_int, fGt_int, fGe_int, fEq_int, fEq_str, fEq_bl, fEq_tup, fEq_lst, fEq_tn, fEq_nt, fEq_nn, fEq_it, fEq_ti, fEq_in, fEq_ni, fNe_in, fNe_ni, fNe_int, fNe_str, fNe_bl, fNe_tup, fNe_lst, fNe_tn, fNe_nt, fNe_nn, fInS_lst, fInS_tup, fNotInS_lst, fNotInS_tup, zip2_lst, zip2_tup, zip3_tup, zipD3_cons, zipD3_nil, zipD_nil, zipD_cons, enD, noL_int, noL_bl, noL_str, noL_non, noL_tup, noLL_nil, noLL_cons, fIx_tup, fIx_lst, fIx_scr, ixR_some, it_tup, it_lst, cutq_lst, cutq_scr, cutq_tup, fLen_tup, fLen_lst, fLen_scr, fI1_int, fI2_int, fInt_int, fInt_bl, fSqrt_isq, fDivmod_int, fAll_lst, fAny_lst, fSum_lst, blR_some, nuR_some, fTuple_lst, fTuple_tup, fList_lst, fList_tup, fList_scr, fRepr_int, fRepr_bl, fRepr_non, fRepr_tup, fRepr_lst, isTy, isNon_non, isNon_int, isNon_bl, isNon_str, isNon_tup, isNon_lst, eqD_int, eqD_str, eqD_bl, eqD_nn, eqD_ni, eqD_in, eqD_nt, eqD_tn, eqD_tup, eqD_lst, eqDL_nil, eqDL_nc, eqDL_cn, eqDL_cons, List.any_cons, List.any_nil, List.length_cons, List.length_nil, List.cons_append, List.nil_append, List.getElem?_cons_zero, List.getElem?_cons_succ, List.set_cons_zero, List.set_cons_succ, Option.map_some, Nat.reduceAdd, Nat.reduceSub, atI_lit, ixN_lit, atI_m1, Nat.reduceLT, reduceIte, Nat.reduceLeDiff, true_and, and_true, List.append_nil, List.map_cons, List.map_nil, Bool.not_eq_true', Int.cast_ofNat_Int, Int.reduceLT, Int.reduceLE, decide_true, decide_false, Bool.false_eq_true, Bool.not_true, Bool.not_false, cut_none, cut_to, cut_from, cut_fromto, List.take_succ_cons, List.take_zero, List.drop_succ_cons, List.drop_zero, List.take_nil, List.drop_nil, bls_nil, bls_cons, nums_nil, nums_cons, all_nil', all_cons', any_nil', any_cons', Bool.and_true, Bool.true_and, Bool.or_false, Bool.false_or, Bool.and_false, Bool.false_and, Bool.true_or, Bool.or_true, Int.reduceToNat, Int.reduceAdd, Int.reduceSub, Int.reduceMul, Int.reduceMod, Int.reduceNeg, Int.reducePow, Int.reduceEq, Int.reduceNe, Int.one_mul, Int.neg_mul, ne_eq, not_true_eq_false, not_false_eq_true, repD_succ, repD_zero, Nat.reduceMul, Bool.not_not, eq_self, and_self, false_implies, true_implies, implies_true, Nat.reduceEqDiff, intsL]); try rewrite [callS_eq]; try (refine lamK_in ?_))
local macro_rules | `(tactic| walk_at "wkn") => `(tactic| (try simp (maxSteps := 2000000) (dsimp := false) (implicitDefEqProofs := false) only [↓h_var, ↓h_c, ↓h_op, ↓h_neg, ↓h_isN, ↓h_notN, ↓h_tst, ↓h_and, ↓h_or, ↓h_not, ↓h_andV, ↓h_orV, ↓h_notV, ↓h_if, ↓h_anil, ↓h_acons, ↓h_atank, ↓h_astar, ↓h_tup, ↓h_lst, ↓h_call, ↓h_callX, ↓h_tupIx, ↓h_raise1, ↓h_raise0, ↓h_isE, ↓h_givE, ↓h_mt, ↓h_callT, ↓h_callP, ↓h_aApp, ↓h_blt, ↓h_psome, ↓h_slq, ↓h_rev, ↓h_stp, ↓h_dct0, ↓h_dct1, ↓h_isi, ↓h_iQ, ↓h_iR1, ↓h_iR2, ↓h_iR3, ↓h_iZA, ↓h_iZ3, ↓h_iEn, ↓h_seq, ↓h_ret, ↓h_expr, ↓h_sif, ↓h_asg, ↓h_gN, ↓h_gsnil, ↓h_gscons, ↓h_gTL, ↓h_gT, ↓h_par, ↓h_par3, ↓h_parO, ↓h_parF, ↓h_parC, ↓h_par3C, ↓h_own, ↓h_ownC, ↓h_frz, ↓h_frq, ↓h_app, ↓h_view, ↓h_viewT, ↓h_gOs, ↓h_for, ↓h_lc, ↓h_lcO, ↓h_yes, ↓h_getT, ↓h_lenSet, ↓h_setEq, ↓h_chn, ↓h_aug, ↓h_vVal, ↓h_vLst, ↓h_vLc, ↓h_setV, ↓h_par2V, ↓h_par3V, ↓h_ins, ↓h_unpP, ↓h_pixT, ↓h_lam, ↓h_callXP, ↓h_tupP, ↓h_pix, ↓oF_pd, ↓orVK_t, ↓andVK_f, ↓orK_t, ↓andK_f, augK_int, hid_nil, hid_c, hidS_val, hidS_own, hidS_tank, hidS_none, hidS_ptup, varK_pt, tuPK_go, pixK_go, varK_go, tixK_go, exK_0, exK_1, gvK_1, mtK_go, raiK_go, iteB_t, iteB_f, iteB_not, iteB_tt, setE_go, pdK_c, pdK_t, negK_go, bolK_go, tstK_go, andK_t, andK_f, andK_p, andK_q, orK_t, orK_f, orK_p, orK_q, andVK_t, andVK_f, andVK_p, andVK_q, orVK_t, orVK_f, orVK_p, orVK_q, notVK_go, tnkK_go, sqK_go, vals_val, vals_nil, callN_go, callP_go, lstK_go, opK_go, intK_go, blqK_go, r1K_go, r2K_go, r3K_go, zpK_go, zp3K_go, parK_go, parK3_go, ownK_o, ownK_v, ownK_n, natK_go, forK_nil, lcK_nil, enK_go, h_cN, h_cT, h_cP, cpB_some, setAll_nil, setAll_cons, wipe_nil, wipe_cons, okN_t, okN_non, okN_int, okN_bl, okN_tup, okN_lst, okL_nil, okL_cons, fMinT_tup, mnT_some, stp_tup, stp3_4, tupN_tup, getK_some, fReprE_lst, fReprG_lst, fNeE_lst, fMulU_tup, List.isEmpty_cons, List.isEmpty_nil, fReprE_tup, fReprE_int, fReprE_bl, fReprE_non, fCntT_lst, fIdxT_lst, cntC_some, idxC_some, ixR2_some, idxI_t, idxI_f, cntT_nil, cntT_t, cntT_f, fSortT_lst, stR_some, tups_nil, tups_c, tpC_some, fBitL_int, permL_n, permL_c, pmC_s, fMaxL_lst, mxR_some, isTy_dct, isNon_dct, fIs_bl, fIsn_bl, bIs_t, bIs_f, bIs_s, rev_lst, rev_tup, rev_scr, List.reverse_cons, List.reverse_nil, fAdd_int, fAdd_lst, fAdd_tup, fAdd_str, fSub_int, fSub_bl, fMul_int, fMul_lst, fDiv_int, fMod_int, fPow_int, fShl_int, fLt_int, fLe_int, fGt_int, fGe_int, fEq_int, fEq_str, fEq_bl, fEq_tup, fEq_lst, fEq_tn, fEq_nt, fEq_nn, fEq_it, fEq_ti, fEq_in, fEq_ni, fNe_in, fNe_ni, fNe_int, fNe_str, fNe_bl, fNe_tup, fNe_lst, fNe_tn, fNe_nt, fNe_nn, fInS_lst, fInS_tup, fNotInS_lst, fNotInS_tup, zip2_lst, zip2_tup, zip3_tup, zipD3_cons, zipD3_nil, zipD_nil, zipD_cons, enD, noL_int, noL_bl, noL_str, noL_non, noL_tup, noLL_nil, noLL_cons, fIx_tup, fIx_lst, fIx_scr, ixR_some, it_tup, it_lst, cutq_lst, cutq_scr, cutq_tup, fLen_tup, fLen_lst, fLen_scr, fI1_int, fI2_int, fInt_int, fInt_bl, fSqrt_isq, fDivmod_int, fAll_lst, fAny_lst, fSum_lst, blR_some, nuR_some, fTuple_lst, fTuple_tup, fList_lst, fList_tup, fList_scr, fRepr_int, fRepr_bl, fRepr_non, fRepr_tup, fRepr_lst, isTy, isNon_non, isNon_int, isNon_bl, isNon_str, isNon_tup, isNon_lst, eqD_int, eqD_str, eqD_bl, eqD_nn, eqD_ni, eqD_in, eqD_nt, eqD_tn, eqD_tup, eqD_lst, eqDL_nil, eqDL_nc, eqDL_cn, eqDL_cons, List.any_cons, List.any_nil, List.length_cons, List.length_nil, List.cons_append, List.nil_append, List.getElem?_cons_zero, List.getElem?_cons_succ, List.set_cons_zero, List.set_cons_succ, Option.map_some, Nat.reduceAdd, Nat.reduceSub, atI_lit, ixN_lit, atI_m1, Nat.reduceLT, reduceIte, Nat.reduceLeDiff, true_and, and_true, List.append_nil, List.map_cons, List.map_nil, Bool.not_eq_true', Int.cast_ofNat_Int, Int.reduceLT, Int.reduceLE, decide_true, decide_false, Bool.false_eq_true, Bool.not_true, Bool.not_false, cut_none, cut_to, cut_from, cut_fromto, List.take_succ_cons, List.take_zero, List.drop_succ_cons, List.drop_zero, List.take_nil, List.drop_nil, bls_nil, bls_cons, nums_nil, nums_cons, all_nil', all_cons', any_nil', any_cons', Bool.and_true, Bool.true_and, Bool.or_false, Bool.false_or, Bool.and_false, Bool.false_and, Bool.true_or, Bool.or_true, Int.reduceToNat, Int.reduceAdd, Int.reduceSub, Int.reduceMul, Int.reduceMod, Int.reduceNeg, Int.reducePow, Int.reduceEq, Int.reduceNe, Int.one_mul, Int.neg_mul, ne_eq, not_true_eq_false, not_false_eq_true, repD_succ, repD_zero, Nat.reduceMul, Bool.not_not, eq_self, and_self, false_implies, true_implies, implies_true, Nat.reduceEqDiff]); try rewrite [callS_eq]; try (refine lamK_in ?_))

def TkOk (T : Tk) : Prop := ∃ a b c, T = [.int a, .int b, .int c] ∧ 0 ≤ a ∧ 0 ≤ b
set_option exponentiation.threshold 20000
theorem lit_mul {i j : Int} (h : i.natAbs < 2 ^ 64) : MulOk i j := .inl (.inl h)
theorem lit_mul' {i j : Int} (h : j.natAbs < 2 ^ 64) : MulOk i j := .inl (.inr h)
theorem lit_div {i j : Int} (h : 0 < j) (q : j.natAbs < 2 ^ 64) : DivOk i j := ⟨h, Nat.lt_of_lt_of_le q (Nat.pow_le_pow_right (by decide) (by decide))⟩
theorem lit_dm {i j : Int} (h : 0 < j) (q : j.natAbs < 2 ^ 64) : DmOk i j := ⟨h, Nat.lt_of_lt_of_le q (Nat.pow_le_pow_right (by decide) (by decide))⟩
theorem mul_self_nonneg' (a : Int) : 0 ≤ a * a := by
  rcases Int.le_total 0 a with h | h
  · exact Int.mul_nonneg h h
  · exact Int.mul_nonneg_of_nonpos_of_nonpos h h
theorem imul_self_pos {a : Int} (h : a ≠ 0) : 0 < a * a := by
  rcases Int.lt_or_gt_of_ne h with q | q
  · exact Int.mul_pos_of_neg_of_neg q q
  · exact Int.mul_pos q q
abbrev Cx2 := Int × Int
def Cz (n : Nat) (z : Cx2) : Prop := Sz n z.1 ∧ Sz n z.2
def cadd (z w : Cx2) : Cx2 := (z.1 + w.1, z.2 + w.2)
def csub (z w : Cx2) : Cx2 := (z.1 - w.1, z.2 - w.2)
def cmul (z w : Cx2) : Cx2 := (z.1 * w.1 - z.2 * w.2, z.1 * w.2 + z.2 * w.1)
def cconj (z : Cx2) : Cx2 := (z.1, -z.2)
def cnrm (z : Cx2) : Int := z.1 * z.1 + z.2 * z.2
theorem Cz.mono {m n : Nat} {z : Cx2} (h : Cz m z) (l : m ≤ n) : Cz n z := ⟨h.1.mono l, h.2.mono l⟩
theorem Cz.add {n : Nat} {z w : Cx2} (h : Cz n z) (q : Cz n w) : Cz (n + 1) (cadd z w) := ⟨by simpa [cadd] using h.1.add q.1, by simpa [cadd] using h.2.add q.2⟩
theorem Cz.sub {n : Nat} {z w : Cx2} (h : Cz n z) (q : Cz n w) : Cz (n + 1) (csub z w) := ⟨by simpa [csub] using h.1.sub q.1, by simpa [csub] using h.2.sub q.2⟩
theorem Cz.mul {m n : Nat} {z w : Cx2} (h : Cz m z) (q : Cz n w) : Cz (m + n + 1) (cmul z w) := ⟨by simpa [cmul] using (h.1.mul q.1).sub (h.2.mul q.2), by simpa [cmul] using (h.1.mul q.2).add (h.2.mul q.1)⟩
theorem Cz.conj {n : Nat} {z : Cx2} (h : Cz n z) : Cz n (cconj z) := ⟨h.1, h.2.neg⟩
theorem Cz.nrm {n : Nat} {z : Cx2} (h : Cz n z) : Sz (n + n + 1) (cnrm z) := by simpa [cnrm] using (h.1.mul h.1).add (h.2.mul h.2)
theorem w__law_draw {T : Tk} {m : Int} {k : KD} (hT : TkOk T) (h0 : 0 < m) (h1 : m.natAbs < 2 ^ 64) (h : ∀ r T', 0 ≤ r → r < m → TkOk T' → k (.int r) T') : sm__law_draw [.tank, .val (.int m)] T k := by
  obtain ⟨a, b, c, rfl, ha, hb⟩ := hT
  rw [e__law_draw, b__law_draw]
  walk_at "ev"
  split
  · exact ⟨lit_dm h0 h1, h _ _ (Int.emod_nonneg _ (by omega)) (Int.emod_lt_of_pos _ h0) ⟨_, _, _, rfl, Int.ediv_nonneg ha (by omega), hb⟩⟩
  · refine ⟨lit_mul' (by omega), lit_mul (by decide), lit_div (by decide) (by decide), h0, h _ _ (Int.emod_nonneg _ (by omega)) (Int.emod_lt_of_pos _ h0) ⟨_, _, _, rfl, ha, Int.emod_nonneg _ (by decide)⟩⟩
theorem w__law_pick {T : Tk} {xs : List D} {k : KD} (hT : TkOk T) (h0 : xs ≠ []) (h1 : xs.length < 1000000) (h : ∀ x T', x ∈ xs → TkOk T' → k x T') : sm__law_pick [.tank, .val (.tup xs)] T k := by
  rw [e__law_pick, b__law_pick]
  walk_at "ev"
  have hl : 0 < xs.length := List.length_pos_iff.mpr h0
  refine w__law_draw hT (by omega) (by omega) fun r T' h2 h3 hT' => ?_
  obtain ⟨n, rfl⟩ := Int.eq_ofNat_of_zero_le h2
  have hn : n < xs.length := by omega
  walk_at "ev"
  simp only [atI_nat', List.getElem?_eq_getElem hn, ixR_some]
  exact ⟨trivial, h _ _ (List.getElem_mem hn) hT'⟩
theorem w__law_number {T : Tk} {k : KD} (hT : TkOk T) (h : ∀ r T', Sz 40 r → TkOk T' → k (.int r) T') : sm__law_number [.tank] T k := by
  rw [e__law_number, b__law_number]
  walk_at "ev"
  refine w__law_pick hT (by simp) (by simp) fun x T1 hx hT1 => ?_
  have hx' : ∃ s : Int, x = .int s ∧ 0 ≤ s ∧ s ≤ 99 := by
    simp only [List.mem_cons, List.not_mem_nil, or_false] at hx
    rcases hx with rfl | rfl | rfl | rfl | rfl | rfl | rfl <;> exact ⟨_, rfl, by decide, by decide⟩
  obtain ⟨s, rfl, s0, s1⟩ := hx'
  walk_at "ev"
  split
  · refine ⟨lit_mul (by decide), w__law_draw hT1 (by omega) (by omega) fun r T2 h2 h3 hT2 => ?_⟩
    walk_at "ev"
    refine h _ _ ?_ hT2
    unfold Sz
    omega
  · refine w__law_draw hT1 (by decide) (by decide) fun r1 T2 h2 h3 hT2 => ?_
    walk_at "ev"
    refine ⟨lit_mul' (by decide), w__law_draw hT2 (by decide) (by decide) fun r2 T3 h4 h5 hT3 => ?_⟩
    walk_at "ev"
    refine w__law_draw hT3 (by decide) (by decide) fun r3 T4 h6 h7 hT4 => ?_
    walk_at "ev"
    refine ⟨lit_mul (by decide), lit_mul' (by omega), h _ _ ?_ hT4⟩
    have : r3 = 0 ∨ r3 = 1 := by omega
    unfold Sz
    rcases this with rfl | rfl <;> omega

theorem w__law_rounds {T : Tk} {xs : List D} {k : KD} (h : ∀ r : Int, r = 2 ∨ r = 3 → k (.int r) T) : sm__law_rounds [.val (.scr xs)] T k := by
  rw [e__law_rounds, b__law_rounds]
  walk_at "ev"
  refine h _ ?_
  unfold iMax iMin
  split <;> split at * <;> omega
theorem w_tank_loop {F : En → Tk → Prop} {A B : Option SV} {T : Tk} : ∀ (ns : List Int) (s : Int) (c : Option SV), 0 ≤ s → (∀ s' c', 0 ≤ s' → F [A, B, some (.val (.int s')), c', none, none] T) →
    forL (gN 3) (sAsg (dOp (oF fMod) (dBlt (oG fInt) (aCons (dOp (oF fAdd) (dOp (oF fAdd) (dOp (oF fMul) (dVar 2) (dC (.int 51977))) (dOp (oF fMod) (dBlt (oG fInt) (aCons (dVar 3) (aNil))) (dC (.int 2147483629)))) (dC (.int 37))) (aNil))) (dC (.int 2147483629))) (gN 2)) { no0 with nx := F } (ns.map D.int) [A, B, some (.val (.int s)), c, none, none] T
  | [], s, c, h0, h => h s c h0
  | n :: ns, s, c, h0, h => by
    rw [List.map_cons]
    walk_at "ev"
    exact ⟨lit_mul' (by decide), w_tank_loop ns _ _ (Int.emod_nonneg _ (by decide)) h⟩
theorem w__law_tank {ns : List Int} {i : Int} {k : KD} (hi : 0 ≤ i) (h : ∀ T, TkOk T → k (.lst T) []) : sm__law_tank [.val (scrD ns), .val (.int i)] [] k := by
  rw [e__law_tank, b__law_tank, scrD]
  walk_at "ev"
  refine ⟨lit_mul (by decide), ?_, ?_⟩
  · have := List.length_take_le 9 (ns.map D.int); omega
  rw [← List.map_take]
  refine w_tank_loop _ _ _ (by omega) fun s c hs => ?_
  have hk : ∀ o : Int, (∀ p : Int, 0 ≤ p → k (.lst [.int p, .int ((s * 33013 + o % 2147483629 * 7001 + 3) % 2147483629), .int 0]) []) := fun o p hp => h _ ⟨_, _, _, rfl, hp, Int.emod_nonneg _ (by decide)⟩
  walk_at "ev"
  have hp : ∀ o : Int, 0 ≤ iAbs o := fun o => by unfold iAbs; split <;> omega
  have fin : ∀ o : Int, (if o < 0 then MulOk s 33013 ∧ MulOk (o % 2147483629) 7001 ∧ k (.lst [.int (iAbs o), .int ((s * 33013 + o % 2147483629 * 7001 + 3) % 2147483629), .int 0]) []
      else CPow 10 18 ∧ if 10 ^ Int.toNat 18 ≤ o then MulOk s 33013 ∧ MulOk (o % 2147483629) 7001 ∧ k (.lst [.int (iAbs o), .int ((s * 33013 + o % 2147483629 * 7001 + 3) % 2147483629), .int 0]) []
      else MulOk s 33013 ∧ MulOk (o % 2147483629) 7001 ∧ k (.lst [.int 0, .int ((s * 33013 + o % 2147483629 * 7001 + 3) % 2147483629), .int 0]) []) := by
    intro o
    have m1 : MulOk s 33013 := lit_mul' (by decide)
    have m2 : MulOk (o % 2147483629) 7001 := lit_mul' (by decide)
    split
    · exact ⟨m1, m2, hk o _ (by omega)⟩
    refine ⟨by unfold CPow; decide, ?_⟩
    split
    · exact ⟨m1, m2, hk o _ (by omega)⟩
    · exact ⟨m1, m2, hk o _ (Int.le_refl _)⟩
  split
  · rename_i hl
    obtain ⟨n, rfl⟩ := Int.eq_ofNat_of_zero_le hi
    rw [atI_nat', List.getElem?_map, List.getElem?_eq_getElem (by simpa using hl)]
    walk_at "ev"
    exact fin _
  · walk_at "ev"
    exact fin _

theorem w_plus {T : Tk} {a b c d : Int} {k : KD} (h : k (.tup [.int (a + c), .int (b + d)]) T) : sm_plus [.val (.tup [.int a, .int b]), .val (.tup [.int c, .int d])] T k := by
  rw [e_plus, b_plus]
  walk_at "ev"
  exact h
theorem w_minus {T : Tk} {a b c d : Int} {k : KD} (h : k (.tup [.int (a - c), .int (b - d)]) T) : sm_minus [.val (.tup [.int a, .int b]), .val (.tup [.int c, .int d])] T k := by
  rw [e_minus, b_minus]
  walk_at "ev"
  exact h
theorem w_times {T : Tk} {a b c d : Int} {k : KD} (hz : Cz 100000 (a, b)) (hw : Cz 100000 (c, d)) (h : ∀ p, p = cmul (a, b) (c, d) → k (.tup [.int p.1, .int p.2]) T) : sm_times [.val (.tup [.int a, .int b]), .val (.tup [.int c, .int d])] T k := by
  rw [e_times, b_times]
  walk_at "ev"
  exact ⟨hz.1.mulOk hw.1 (by decide) (by decide), hz.2.mulOk hw.2 (by decide) (by decide), hz.1.mulOk hw.2 (by decide) (by decide), hz.2.mulOk hw.1 (by decide) (by decide), h _ rfl⟩
theorem w_turned_over {T : Tk} {a b : Int} {k : KD} (h : k (.tup [.int a, .int (-b)]) T) : sm_turned_over [.val (.tup [.int a, .int b])] T k := by
  rw [e_turned_over, b_turned_over]
  walk_at "ev"
  exact h
theorem w_square_size {T : Tk} {a b : Int} {k : KD} (hz : Cz 100000 (a, b)) (h : k (.int (cnrm (a, b))) T) : sm_square_size [.val (.tup [.int a, .int b])] T k := by
  rw [e_square_size, b_square_size]
  walk_at "ev"
  exact ⟨hz.1.mulOk hz.1 (by decide) (by decide), hz.2.mulOk hz.2 (by decide) (by decide), h⟩
def cunit (z : Cx2) : Cx2 := if 0 < z.1 ∧ 0 ≤ z.2 then (1, 0) else if 0 < -z.2 ∧ 0 ≤ z.1 then (0, 1) else if 0 < -z.1 ∧ 0 ≤ -z.2 then (-1, 0) else (0, -1)
theorem cz_unit {N : Nat} (hN : 1 ≤ N) {a b : Int} (ha : -1 ≤ a ∧ a ≤ 1) (hb : -1 ≤ b ∧ b ≤ 1) : Cz N (a, b) := by
  have t : (2 : Nat) ^ 1 ≤ 2 ^ N := Nat.pow_le_pow_right (by decide) hN
  constructor
  · show a.natAbs < 2 ^ N; omega
  · show b.natAbs < 2 ^ N; omega
theorem w_unit_for {T : Tk} {a b : Int} {k : KD} (hz : Cz 100000 (a, b)) (h : ∀ p, p = cunit (a, b) → k (.tup [.int p.1, .int p.2]) T) : sm_unit_for [.val (.tup [.int a, .int b])] T k := by
  rw [e_unit_for, b_unit_for, k_UNITS]
  walk_at "ev"
  have h1 : cmul (a, b) (1, 0) = (a, b) := by simp [cmul]
  have h2 : cmul (a, b) (0, 1) = (-b, a) := by simp [cmul]
  have h3 : cmul (a, b) (-1, 0) = (-a, -b) := by simp [cmul]
  have h0 := h _ rfl
  unfold cunit at h0
  simp only at h0
  refine w_times hz (cz_unit (by decide) (by decide) (by decide)) ?_
  rintro _ rfl
  rw [h1]
  walk_at "ev"
  split
  · rename_i c1; rw [if_pos c1] at h0; exact h0
  rename_i c1
  rw [if_neg c1] at h0
  refine w_times hz (cz_unit (by decide) (by decide) (by decide)) ?_
  rintro _ rfl
  rw [h2]
  walk_at "ev"
  split
  · rename_i c2; rw [if_pos c2] at h0; exact h0
  rename_i c2
  rw [if_neg c2] at h0
  refine w_times hz (cz_unit (by decide) (by decide) (by decide)) ?_
  rintro _ rfl
  rw [h3]
  walk_at "ev"
  split
  · rename_i c3; rw [if_pos c3] at h0; exact h0
  · rename_i c3; rw [if_neg c3] at h0; exact h0
def cdivd (z w : Cx2) : Option Cx2 := if (cmul z (cconj w)).1 % cnrm w = 0 ∧ (cmul z (cconj w)).2 % cnrm w = 0 then some ((cmul z (cconj w)).1 / cnrm w, (cmul z (cconj w)).2 / cnrm w) else none
def ocx : Option Cx2 → D
  | some z => .tup [.int z.1, .int z.2]
  | none => .non
theorem w_divided {T : Tk} {a b c d : Int} {k : KD} (hz : Cz 4000 (a, b)) (hw : Cz 4000 (c, d)) (h0 : 0 < cnrm (c, d)) (h : k (ocx (cdivd (a, b) (c, d))) T) : sm_divided [.val (.tup [.int a, .int b]), .val (.tup [.int c, .int d])] T k := by
  rw [e_divided, b_divided]
  walk_at "ev"
  refine w_turned_over ?_
  walk_at "ev"
  refine w_times (hz.mono (by decide)) (hw.conj.mono (by decide)) ?_
  rintro p rfl
  walk_at "ev"
  refine w_square_size (hw.mono (by decide)) ?_
  walk_at "ev"
  have hn : Sz 8001 (cnrm (c, d)) := hw.nrm
  unfold cdivd at h
  have e1 : cconj (c, d) = (c, -d) := rfl
  rw [e1] at h
  refine ⟨h0, ?_⟩
  by_cases q1 : (cmul (a, b) (c, -d)).1 % cnrm (c, d) = 0
  · rw [if_neg (not_not_intro q1)]
    refine ⟨h0, ?_⟩
    by_cases q2 : (cmul (a, b) (c, -d)).2 % cnrm (c, d) = 0
    · rw [if_neg (not_not_intro q2)]
      rw [if_pos ⟨q1, q2⟩] at h
      exact ⟨hn.divOk (by decide) h0, hn.divOk (by decide) h0, h⟩
    · rw [if_pos q2]
      rw [if_neg fun e => q2 e.2] at h
      exact h
  · rw [if_pos q1]
    rw [if_neg fun e => q1 e.1] at h
    exact h
theorem cnrm_pos {w : Cx2} (h : ¬(w.1 = 0 ∧ w.2 = 0)) : 0 < cnrm w := by
  unfold cnrm
  have h1 : 0 ≤ w.1 * w.1 := mul_self_nonneg' w.1
  have h2 : 0 ≤ w.2 * w.2 := mul_self_nonneg' w.2
  by_cases q : w.1 = 0
  · have : w.2 ≠ 0 := fun e => h ⟨q, e⟩
    have := imul_self_pos this
    omega
  · have := imul_self_pos q
    omega
theorem cz_cunit {N : Nat} (hN : 1 ≤ N) (z : Cx2) : Cz N (cunit z) := by
  unfold cunit
  split
  · exact cz_unit hN (by decide) (by decide)
  split
  · exact cz_unit hN (by decide) (by decide)
  split
  · exact cz_unit hN (by decide) (by decide)
  · exact cz_unit hN (by decide) (by decide)
theorem sz_0 {n : Nat} : Sz n 0 := Nat.two_pow_pos n

def gcdL (g : Int) : List Int → Int
  | [] => g | n :: r => gcdL (iGcd g n) r
theorem iGcd_nn (a b : Int) : 0 ≤ iGcd a b := Int.natCast_nonneg _
theorem gcdL_nn : ∀ (ns : List Int) (g : Int), 0 ≤ g → 0 ≤ gcdL g ns
  | [], _, h => h
  | n :: r, g, _ => gcdL_nn r _ (iGcd_nn g n)
theorem iGcd_dvd_l (a b : Int) : iGcd a b ∣ a := Int.natAbs_dvd_natAbs.mp (by rw [Int.natAbs_natCast]; exact Nat.gcd_dvd_left _ _)
theorem iGcd_dvd_r (a b : Int) : iGcd a b ∣ b := Int.natAbs_dvd_natAbs.mp (by rw [Int.natAbs_natCast]; exact Nat.gcd_dvd_right _ _)
theorem gcdL_dvd0 : ∀ (ns : List Int) (g : Int), gcdL g ns ∣ g
  | [], g => Int.dvd_refl g
  | n :: r, g => Int.dvd_trans (gcdL_dvd0 r _) (iGcd_dvd_l g n)
theorem gcdL_dvd : ∀ (ns : List Int) (g : Int), ∀ n ∈ ns, gcdL g ns ∣ n
  | [], _, _, h => by simp at h
  | m :: r, g, n, h => by
    rcases List.mem_cons.mp h with rfl | h
    · exact Int.dvd_trans (gcdL_dvd0 r _) (iGcd_dvd_r g n)
    · exact gcdL_dvd r _ n h
theorem dvd_iGcd {d a b : Int} (h : d ∣ a) (q : d ∣ b) : d ∣ iGcd a b := by
  have h' := Int.natAbs_dvd_natAbs.mpr h
  have q' := Int.natAbs_dvd_natAbs.mpr q
  exact Int.natAbs_dvd_natAbs.mp (by rw [Int.natAbs_natCast]; exact Nat.dvd_gcd h' q')
theorem dvd_gcdL : ∀ (ns : List Int) (g d : Int), d ∣ g → (∀ n ∈ ns, d ∣ n) → d ∣ gcdL g ns
  | [], _, _, h, _ => h
  | m :: r, g, d, h, q => dvd_gcdL r _ d (dvd_iGcd h (q m (by simp))) fun n hn => q n (by simp [hn])
theorem gcdL_pos {ns : List Int} {n : Int} (hn : n ∈ ns) (h0 : n ≠ 0) : 0 < gcdL 0 ns := by
  have h1 := gcdL_nn ns 0 (Int.le_refl _)
  have h2 := gcdL_dvd ns 0 n hn
  rcases Int.lt_or_eq_of_le h1 with q | q
  · exact q
  · rw [← q] at h2
    exact absurd (Int.zero_dvd.mp h2) h0
def lowL (ns : List Int) : List Int := ns.map (· / gcdL 0 ns)
/-- a common divisor is no longer than a number it divides -/
theorem sz_dvd {m : Nat} {g n : Int} (h : g ∣ n) (h0 : n ≠ 0) (s : Sz m n) : Sz m g := by
  have := Nat.le_of_dvd (Int.natAbs_pos.mpr h0) (Int.natAbs_dvd_natAbs.mpr h)
  unfold Sz at *
  omega
theorem lc_div {A : Option SV} {B : En} {g : Int} {K : List D → Tk → Prop} (hg : ∀ i, DivOk i g) : ∀ (ns : List Int) (c : Option SV) (acc : List D) (T : Tk), K (acc ++ (ns.map (· / g)).map D.int) T →
    lcD (A :: some (.val (.int g)) :: c :: B) (cN 2) dYes (dOp (oF fDiv) (dVar 2) (dVar 1)) K (ns.map D.int) acc T
  | [], c, acc, T, h => by
    rw [List.map_nil, List.map_nil, List.append_nil] at h
    exact h
  | n :: ns, c, acc, T, h => by
    rw [List.map_cons]
    walk_at "ev"
    refine ⟨hg _, lc_div hg ns _ _ _ ?_⟩
    rw [List.append_assoc]
    exact h
theorem div_loop {A : Option SV} {F B C : En → Tk → Prop} {R : KD} {T : Tk} : ∀ (ns : List Int) (g : Int) (c : Option SV), (∀ c', F [A, some (.val (.int (gcdL g ns))), c'] T) →
    forL (gN 2) (sAsg (dBlt (oG (fI2 iGcd)) (aCons (dVar 1) (aCons (dVar 2) (aNil)))) (gN 1)) { nx := F, rt := R, bk := B, ct := C } (ns.map D.int) [A, some (.val (.int g)), c] T
  | [], g, c, h => h c
  | n :: ns, g, c, h => by
    rw [List.map_cons]
    walk_at "ev"
    exact div_loop ns _ _ h
theorem w_divisor_of {T : Tk} {ns : List Int} {k : KD} (hl : ns.length ≤ 1000000) (h : k (.int (gcdL 0 ns)) T) : sm_divisor_of [.val (.tup (ns.map D.int))] T k := by
  rw [e_divisor_of, b_divisor_of]
  walk_at "ev"
  refine ⟨by simpa using hl, ?_⟩
  refine div_loop ns 0 _ fun c => ?_
  walk_at "ev"
  exact h
theorem w_lowest {T : Tk} {ns : List Int} {k : KD} (hl : ns.length ≤ 1000000) {n : Int} (hn : n ∈ ns) (h0 : n ≠ 0) (hs : Sz 9000 n) (h : k (.tup ((lowL ns).map D.int)) T) : sm_lowest [.val (.tup (ns.map D.int))] T k := by
  rw [e_lowest, b_lowest]
  walk_at "ev"
  refine w_divisor_of hl ?_
  walk_at "ev"
  refine ⟨by simpa using hl, ?_⟩
  have hp := gcdL_pos hn h0
  have hd := sz_dvd (gcdL_dvd ns 0 n hn) h0 hs
  refine lc_div (fun i => hd.divOk (Nat.le_refl _) hp) ns _ _ _ ?_
  walk_at "ev"
  exact h
theorem w_is_lowest {T : Tk} {ns : List Int} {k : KD} (hl : ns.length ≤ 1000000) (h : k (.bl (decide (gcdL 0 ns = 1))) T) : sm_is_lowest [.val (.tup (ns.map D.int))] T k := by
  rw [e_is_lowest, b_is_lowest]
  walk_at "ev"
  refine w_divisor_of hl ?_
  walk_at "ev"
  exact h
theorem iGcd_mod {a b : Int} (ha : 0 ≤ a) (hb : 0 < b) : iGcd b (a % b) = iGcd a b := by
  obtain ⟨x, rfl⟩ := Int.eq_ofNat_of_zero_le ha
  obtain ⟨y, rfl⟩ := Int.eq_ofNat_of_zero_le (Int.le_of_lt hb)
  show ((Nat.gcd _ _ : Nat) : Int) = ((Nat.gcd _ _ : Nat) : Int)
  rw [← Int.natCast_emod, Int.natAbs_natCast, Int.natAbs_natCast, Int.natAbs_natCast, Nat.gcd_comm x y, Nat.gcd_rec y x, Nat.gcd_comm]
theorem iGcd_zero {a : Int} (h : 0 ≤ a) : iGcd a 0 = a := by
  show ((Nat.gcd _ _ : Nat) : Int) = a
  rw [Int.natAbs_zero, Nat.gcd_zero_right]
  omega
theorem iGcd_abs (a b : Int) : iGcd a (iAbs b) = iGcd a b := by
  show ((Nat.gcd _ _ : Nat) : Int) = ((Nat.gcd _ _ : Nat) : Int)
  have : (iAbs b).natAbs = b.natAbs := by unfold iAbs; split <;> omega
  rw [this]
theorem iAbs_nn (a : Int) : 0 ≤ iAbs a := by unfold iAbs; split <;> omega
theorem euclid_loop {E : dEnds} {A P N : Option SV} {T : Tk} {l r : Int} (hl : 0 ≤ l) (hr : 0 ≤ r) (h : ∀ r', E.nx [A, P, N, some (.val (.int (iGcd l r))), r'] T) :
    sWhile (dTst (dOp (oF fGt) (dVar 4) (dC (.int 0)))) (sPar 3 4 (aCons (dVar 4) (aCons (dOp (oF fMod) (dBlt (oG fInt) (aCons (dVar 3) (aNil))) (dVar 4)) (aNil)))) E [A, P, N, some (.val (.int l)), some (.val (.int r))] T := by
  unfold sWhile
  refine ⟨fun m ρ T' => T' = T ∧ ∃ l' r' : Int, 0 ≤ l' ∧ 0 ≤ r' ∧ m = r'.toNat ∧ iGcd l' r' = iGcd l r ∧ ρ = [A, P, N, some (.val (.int l')), some (.val (.int r'))], ⟨_, rfl, l, r, hl, hr, rfl, rfl, rfl⟩, ?_⟩
  rintro m ρ T' ⟨rfl, l', r', h1, h2, rfl, h4, rfl⟩
  walk_at "ev"
  split
  · rename_i q
    have q : 0 < r' := by simpa using q
    refine ⟨q, (l' % r').toNat, ?_, r', l' % r', h2, Int.emod_nonneg _ (by omega), rfl, ?_, rfl⟩
    · have := Int.emod_lt_of_pos l' q
      omega
    · rw [← h4, iGcd_mod h1 q]
  · rename_i q
    have q : r' = 0 := by have : ¬ 0 < r' := by simpa using q
                          omega
    subst q
    have := h (some (.val (.int 0)))
    rw [← h4, iGcd_zero h1] at this
    exact this
theorem least_loop {F B C : En → Tk → Prop} {R : KD} {A : Option SV} {T : Tk} : ∀ (ns : List Int) (g : Int) (c d e : Option SV), 0 ≤ g → (∀ c' d' e', F [A, some (.val (.int (gcdL g ns))), c', d', e'] T) →
    forL (gN 2) (sSeq (sPar 3 4 (aCons (dVar 1) (aCons (dBlt (oG (fI1 iAbs)) (aCons (dVar 2) (aNil))) (aNil)))) (sSeq (sWhile (dTst (dOp (oF fGt) (dVar 4) (dC (.int 0)))) (sPar 3 4 (aCons (dVar 4) (aCons (dOp (oF fMod) (dBlt (oG fInt) (aCons (dVar 3) (aNil))) (dVar 4)) (aNil))))) (sAsg (dVar 3) (gN 1)))) { nx := F, rt := R, bk := B, ct := C } (ns.map D.int) [A, some (.val (.int g)), c, d, e] T
  | [], g, c, d, e, hg, h => h c d e
  | n :: ns, g, c, d, e, hg, h => by
    rw [List.map_cons]
    walk_at "ev"
    refine euclid_loop hg (iAbs_nn n) fun r' => ?_
    walk_at "ev"
    rw [iGcd_abs]
    exact least_loop ns _ _ _ _ (iGcd_nn _ _) h
theorem w__law_least {T : Tk} {ns : List Int} {k : KD} (hl : ns.length ≤ 1000000) {n : Int} (hn : n ∈ ns) (h0 : n ≠ 0) (hs : Sz 9000 n) (h : k (.tup ((lowL ns).map D.int)) T) : sm__law_least [.val (.tup (ns.map D.int))] T k := by
  rw [e__law_least, b__law_least]
  walk_at "ev"
  refine ⟨by simpa using hl, ?_⟩
  refine least_loop ns 0 _ _ _ (Int.le_refl _) fun c d e => ?_
  walk_at "ev"
  refine ⟨by simpa using hl, ?_⟩
  have hp := gcdL_pos hn h0
  have hd := sz_dvd (gcdL_dvd ns 0 n hn) h0 hs
  refine lc_div (fun i => hd.divOk (Nat.le_refl _) hp) ns _ _ _ ?_
  exact h

theorem gcdL_scale {c : Int} (hc : 0 ≤ c) : ∀ (ns : List Int) (g : Int), 0 ≤ g → gcdL (c * g) (ns.map (c * ·)) = c * gcdL g ns
  | [], g, _ => rfl
  | n :: r, g, hg => by
    rw [List.map_cons]
    show gcdL (iGcd (c * g) (c * n)) _ = c * gcdL (iGcd g n) r
    have e : iGcd (c * g) (c * n) = c * iGcd g n := by
      show ((Nat.gcd _ _ : Nat) : Int) = c * ((Nat.gcd _ _ : Nat) : Int)
      rw [Int.natAbs_mul, Int.natAbs_mul, Nat.gcd_mul_left]
      rw [Int.natCast_mul]
      congr 1
      omega
    rw [e]
    exact gcdL_scale hc r _ (iGcd_nn _ _)
theorem lowL_back {ns : List Int} : (lowL ns).map (gcdL 0 ns * ·) = ns := by
  unfold lowL
  rw [List.map_map]
  conv => rhs; rw [← List.map_id ns]
  apply List.map_congr_left
  intro n hn
  exact Int.mul_ediv_cancel' (gcdL_dvd ns 0 n hn)
theorem lowL_gcd {ns : List Int} (h : 0 < gcdL 0 ns) : gcdL 0 (lowL ns) = 1 := by
  have e := gcdL_scale (Int.le_of_lt h) (lowL ns) 0 (Int.le_refl _)
  rw [Int.mul_zero, lowL_back] at e
  have e' : gcdL 0 ns * 1 = gcdL 0 ns * gcdL 0 (lowL ns) := by rw [Int.mul_one]; exact e
  exact (Int.eq_of_mul_eq_mul_left (by omega) e').symm
abbrev P3 := Int × Int × Int
def P3.d (q : P3) : D := .tup [.int q.1, .int q.2.1, .int q.2.2]
/-- a place by its two rational coordinates -/
structure PlQ (n : Nat) (q : P3) (u v : Rat) : Prop where
  pos : 0 < q.2.2
  one : gcdL 0 [q.1, q.2.1, q.2.2] = 1
  s1 : Sz n q.1
  s2 : Sz n q.2.1
  s3 : Sz n q.2.2
  e1 : (q.1 : Rat) = u * (q.2.2 : Rat)
  e2 : (q.2.1 : Rat) = v * (q.2.2 : Rat)
theorem PlQ.mono {m n : Nat} {q : P3} {u v : Rat} (h : PlQ m q u v) (l : m ≤ n) : PlQ n q u v := ⟨h.pos, h.one, h.s1.mono l, h.s2.mono l, h.s3.mono l, h.e1, h.e2⟩
theorem cast_inj {a b : Int} (h : (a : Rat) = (b : Rat)) : a = b := Rat.intCast_inj.mp h
theorem plq_low {n : Nat} {x y z : Int} {u v : Rat} (hz : 0 < z) (s1 : Sz n x) (s2 : Sz n y) (s3 : Sz n z) (e1 : (x : Rat) = u * z) (e2 : (y : Rat) = v * z) : PlQ n (x / gcdL 0 [x, y, z], y / gcdL 0 [x, y, z], z / gcdL 0 [x, y, z]) u v := by
  have hp : 0 < gcdL 0 [x, y, z] := gcdL_pos (n := z) (by simp) (by omega)
  have hb := lowL_back (ns := [x, y, z])
  have ho := lowL_gcd hp
  unfold lowL at hb ho
  generalize gcdL 0 [x, y, z] = g at *
  simp only [List.map_cons, List.map_nil, List.cons.injEq, and_true] at hb ho
  obtain ⟨b1, b2, b3⟩ := hb
  have gz : (g : Rat) ≠ 0 := fun e => by have := cast_inj (b := 0) e; omega
  have c1 : (g : Rat) * ((x / g : Int) : Rat) = x := by rw [← Rat.intCast_mul, b1]
  have c2 : (g : Rat) * ((y / g : Int) : Rat) = y := by rw [← Rat.intCast_mul, b2]
  have c3 : (g : Rat) * ((z / g : Int) : Rat) = z := by rw [← Rat.intCast_mul, b3]
  refine ⟨?_, ho, s1.ediv, s2.ediv, s3.ediv, ?_, ?_⟩
  · rcases Int.lt_or_le 0 (z / g) with q | q
    · exact q
    · have := Int.mul_nonpos_of_nonneg_of_nonpos (Int.le_of_lt hp) q
      omega
  · simp only; generalize ((x / g : Int) : Rat) = X at *; generalize ((z / g : Int) : Rat) = Z at *; grind
  · simp only; generalize ((y / g : Int) : Rat) = X at *; generalize ((z / g : Int) : Rat) = Z at *; grind
theorem w_low3 {T : Tk} {n : Nat} {x y z : Int} {u v : Rat} {k : KD} (hz : 0 < z) (s1 : Sz n x) (s2 : Sz n y) (s3 : Sz n z) (hn : n ≤ 9000) (e1 : (x : Rat) = u * z) (e2 : (y : Rat) = v * z) (h : ∀ q : P3, PlQ n q u v → k (.tup [.int q.1, .int q.2.1, .int q.2.2]) T) : sm_lowest [.val (.tup [.int x, .int y, .int z])] T k :=
  w_lowest (ns := [x, y, z]) (by simp) (n := z) (by simp) (by omega) (s3.mono hn) (h _ (plq_low hz s1 s2 s3 e1 e2))
theorem w_least3 {T : Tk} {n : Nat} {x y z : Int} {u v : Rat} {k : KD} (hz : 0 < z) (s1 : Sz n x) (s2 : Sz n y) (s3 : Sz n z) (hn : n ≤ 9000) (e1 : (x : Rat) = u * z) (e2 : (y : Rat) = v * z) (h : ∀ q : P3, PlQ n q u v → k (.tup [.int q.1, .int q.2.1, .int q.2.2]) T) : sm__law_least [.val (.tup [.int x, .int y, .int z])] T k :=
  w__law_least (ns := [x, y, z]) (by simp) (n := z) (by simp) (by omega) (s3.mono hn) (h _ (plq_low hz s1 s2 s3 e1 e2))
theorem PlQ.ne {n : Nat} {p : P3} {u v : Rat} (h : PlQ n p u v) : (p.2.2 : Rat) ≠ 0 := fun e => by have := cast_inj (b := 0) e; have := h.pos; omega
/-- a fraction by its value -/
structure FrQ (n : Nat) (q : Int × Int) (u : Rat) : Prop where
  pos : 0 < q.2
  one : gcdL 0 [q.1, q.2] = 1
  s1 : Sz n q.1
  s2 : Sz n q.2
  e1 : (q.1 : Rat) = u * (q.2 : Rat)
def fnz : List Int → Int
  | [] => 0
  | x :: r => if x = 0 then fnz r else x
abbrev R4 := Int × Int × Int × Int
def bnd (r : R4) : Int := r.2.1 * r.2.1 + r.2.2.1 * r.2.2.1 - 4 * r.1 * r.2.2.2
structure Rw (n : Nat) (r : R4) : Prop where
  one : gcdL 0 [r.1, r.2.1, r.2.2.1, r.2.2.2] = 1
  bend : 0 < bnd r
  s1 : Sz n r.1
  s2 : Sz n r.2.1
  s3 : Sz n r.2.2.1
  s4 : Sz n r.2.2.2
structure Rd (n : Nat) (r : R4) : Prop extends Rw n r where
  up : 0 < fnz [r.1, r.2.1, r.2.2.1, r.2.2.2]
theorem Rw.mono {m n : Nat} {r : R4} (h : Rw m r) (l : m ≤ n) : Rw n r := ⟨h.one, h.bend, h.s1.mono l, h.s2.mono l, h.s3.mono l, h.s4.mono l⟩
theorem Rd.mono {m n : Nat} {r : R4} (h : Rd m r) (l : m ≤ n) : Rd n r := ⟨h.toRw.mono l, h.up⟩
theorem Rd.pos {n : Nat} {r : R4} (h : Rd n r) (h0 : r.1 ≠ 0) : 0 < r.1 := by
  have := h.up
  unfold fnz at this
  rw [if_neg h0] at this
  exact this
theorem gcdL_neg : ∀ (ns : List Int) (g : Int), gcdL g (ns.map fun x => 0 - x) = gcdL g ns
  | [], g => rfl
  | n :: r, g => by
    rw [List.map_cons]
    show gcdL (iGcd g (0 - n)) _ = gcdL (iGcd g n) r
    have e : iGcd g (0 - n) = iGcd g n := by
      show ((Nat.gcd _ _ : Nat) : Int) = ((Nat.gcd _ _ : Nat) : Int)
      rw [Int.zero_sub, Int.natAbs_neg]
    rw [e]
    exact gcdL_neg r _
theorem Rw.neg {n : Nat} {r : R4} (h : Rw n r) : Rw n (0 - r.1, 0 - r.2.1, 0 - r.2.2.1, 0 - r.2.2.2) := by
  refine ⟨?_, ?_, ?_, ?_, ?_, ?_⟩
  · have := gcdL_neg [r.1, r.2.1, r.2.2.1, r.2.2.2] 0
    rw [h.one] at this
    exact this
  · have := h.bend
    unfold bnd at this ⊢
    simp only
    grind
  · simp only [Int.zero_sub]; exact h.s1.neg
  · simp only [Int.zero_sub]; exact h.s2.neg
  · simp only [Int.zero_sub]; exact h.s3.neg
  · simp only [Int.zero_sub]; exact h.s4.neg
theorem rne' {a : Int} (h : 0 < a) : (a : Rat) ≠ 0 := fun e => by have := cast_inj (b := 0) e; omega
abbrev pD (q : P3) : D := .tup [.int q.1, .int q.2.1, .int q.2.2]
/-- a place, the far one too -/
structure Pt (n : Nat) (q : P3) : Prop where
  ok : (q.1 = 1 ∧ q.2.1 = 0 ∧ q.2.2 = 0) ∨ 0 < q.2.2
  one : gcdL 0 [q.1, q.2.1, q.2.2] = 1
  s1 : Sz n q.1
  s2 : Sz n q.2.1
  s3 : Sz n q.2.2
theorem Pt.mono {m n : Nat} {q : P3} (h : Pt m q) (l : m ≤ n) : Pt n q := ⟨h.ok, h.one, h.s1.mono l, h.s2.mono l, h.s3.mono l⟩
theorem PlQ.pt {n : Nat} {q : P3} {u v : Rat} (h : PlQ n q u v) : Pt n q := ⟨.inr h.pos, h.one, h.s1, h.s2, h.s3⟩
theorem sz_1 {n : Nat} (h : 1 ≤ n) : Sz n 1 := Nat.pow_lt_pow_right (m := 0) (n := n) (by decide) (by omega)
theorem pt_far {n : Nat} (h : 1 ≤ n) : Pt n (1, 0, 0) := ⟨.inl ⟨rfl, rfl, rfl⟩, by decide, sz_1 h, sz_0, sz_0⟩
theorem Pt.far {n : Nat} {q : P3} (h : Pt n q) (e : q.2.2 = 0) : q = (1, 0, 0) := by
  obtain ⟨a, b, c⟩ := q
  rcases h.ok with ⟨e1, e2, e3⟩ | e1
  · simp only at e1 e2 e3; subst e1 e2 e3; rfl
  · simp only at e e1; omega
theorem Pt.nn {n : Nat} {q : P3} (h : Pt n q) : 0 ≤ q.2.2 := by rcases h.ok with ⟨_, _, e3⟩ | e1 <;> omega
/-- the square of how far apart, times what is below -/
def dd (p q : P3) : Int := (p.1 * q.2.2 - q.1 * p.2.2) * (p.1 * q.2.2 - q.1 * p.2.2) + (p.2.1 * q.2.2 - q.2.1 * p.2.2) * (p.2.1 * q.2.2 - q.2.1 * p.2.2)
theorem two_sq {a b : Int} (h : a * a + b * b = 0) : a = 0 ∧ b = 0 := by
  have h1 := mul_self_nonneg' a
  have h2 := mul_self_nonneg' b
  constructor
  · by_cases c : a = 0
    · exact c
    · have := imul_self_pos c; omega
  · by_cases c : b = 0
    · exact c
    · have := imul_self_pos c; omega
theorem TkOk.noL {T : Tk} (h : TkOk T) : D.noLL T := by
  obtain ⟨a, b, c, rfl, _⟩ := h
  simp only [D.noLL, D.noL, and_self]
def w4 (p : P3) : R4 := (p.1 * p.1 + p.2.1 * p.2.1, p.1 * p.2.2, p.2.1 * p.2.2, p.2.2 * p.2.2)
structure S4 (n : Nat) (r : R4) : Prop where
  s1 : Sz n r.1
  s2 : Sz n r.2.1
  s3 : Sz n r.2.2.1
  s4 : Sz n r.2.2.2
def isI : D → Bool
  | .int _ => true
  | _ => false
def Pln : D → Prop
  | .obj _ _ _ => False
  | .ref _ => False
  | _ => True
def isW (n : Int) : D → Bool
  | .tup xs => decide ((xs.length : Int) = n) && xs.all isI
  | _ => false
structure VOk (d : D) : Prop where
  pln : Pln d
  len : ∀ xs, d = .tup xs → xs.length ≤ 1000
  el : ∀ xs, d = .tup xs → ∀ x ∈ xs, okN 3 x
  sz : ∀ xs, d = .tup xs → ∀ i, D.int i ∈ xs → Sz 100 i
theorem okN_pln {n : Nat} {d : D} (h : okN n d) : Pln d := by cases d <;> first | exact trivial | simp only [okN] at h
theorem isW_3 {d : D} (h : isW 3 d = true) : ∃ a b c, d = .tup [.int a, .int b, .int c] := by
  cases d with
  | tup xs =>
    simp only [isW, Bool.and_eq_true, decide_eq_true_eq] at h
    obtain ⟨hl, ha⟩ := h
    match xs, hl with
    | [x, y, z], _ =>
      simp only [List.all_cons, List.all_nil, Bool.and_true, Bool.and_eq_true] at ha
      obtain ⟨h1, h2, h3⟩ := ha
      cases x <;> first | (simp only [isI] at h1; exact absurd h1 (by decide)) | skip
      cases y <;> first | (simp only [isI] at h2; exact absurd h2 (by decide)) | skip
      cases z <;> first | (simp only [isI] at h3; exact absurd h3 (by decide)) | skip
      exact ⟨_, _, _, rfl⟩
    | [], h => exact absurd h (by decide)
    | [_], h => simp at h
    | [_, _], h => simp at h
    | _ :: _ :: _ :: _ :: _, h => simp at h; omega
  | _ => simp only [isW] at h; exact absurd h (by decide)
def isPl : D → Bool
  | .tup [.int a, .int b, .int c] => (decide (a = 1) && (decide (b = 0) && decide (c = 0))) || (decide (0 < c) && decide (gcdL 0 [a, b, c] = 1))
  | _ => false
theorem isPl_no {d : D} (h : isW 3 d = false) : isPl d = false := by
  unfold isPl
  split
  · simp [isW, isI] at h
  · rfl
theorem bls_all : ∀ xs : List D, bls? (xs.map fun x => D.bl (isI x)) = some (xs.map isI)
  | [] => rfl
  | x :: xs => by
    rw [List.map_cons, List.map_cons]
    simp only [bls?, bls_all xs, Option.map_some]
theorem all_isI (xs : List D) : (xs.map isI).all _root_.id = xs.all isI := by
  rw [List.all_map]
  rfl
theorem w_is_whole_v {T : Tk} {d : D} {k : KD} (hd : Pln d) (h : k (.bl (isI d)) T) : sm_is_whole [.val d] T k := by
  rw [e_is_whole, b_is_whole]
  cases d with
  | obj _ _ _ => exact hd.elim
  | ref _ => exact hd.elim
  | bl b => walk_at "wk"; simpa [isI, isTy] using h
  | int i => walk_at "wk"; simpa [isI, isTy] using h
  | non => walk_at "wk"; simpa [isI, isTy] using h
  | str s => walk_at "wk"; simpa [isI, isTy] using h
  | tup s => walk_at "wk"; simpa [isI, isTy] using h
  | lst s => walk_at "wk"; simpa [isI, isTy] using h
  | scr s => walk_at "wk"; simpa [isI, isTy] using h
  | dct s t => walk_at "wk"; simpa [isI, isTy] using h
theorem lc_wholes {A0 A1 : Option SV} {K : List D → Tk → Prop} : ∀ (xs : List D) (c : Option SV) (acc : List D) (T : Tk), (∀ x ∈ xs, Pln x) → K (acc ++ xs.map fun x => D.bl (isI x)) T →
    lcD [A0, A1, c] (cN 2) dYes (dCall 1 sm_is_whole (aCons (dVar 2) (aNil))) K xs acc T
  | [], c, acc, T, _, h => by
    rw [List.map_nil, List.append_nil] at h
    exact h
  | x :: xs, c, acc, T, hx, h => by
    walk_at "evn"
    refine w_is_whole_v (hx x List.mem_cons_self) ?_
    refine lc_wholes xs _ _ _ (fun y hy => hx y (List.mem_cons_of_mem _ hy)) ?_
    rw [List.append_assoc]
    exact h
theorem w_are_wholes_v {T : Tk} {d : D} {n : Int} {k : KD} (hd : VOk d) (h : k (.bl (isW n d)) T) : sm_are_wholes [.val d, .val (.int n)] T k := by
  rw [e_are_wholes, b_are_wholes]
  have pd := hd.pln
  cases d with
  | obj _ _ _ => exact pd.elim
  | ref _ => exact pd.elim
  | bl b => walk_at "wk"; simpa [isW, isTy] using h
  | int i => walk_at "wk"; simpa [isW, isTy] using h
  | non => walk_at "wk"; simpa [isW, isTy] using h
  | str s => walk_at "wk"; simpa [isW, isTy] using h
  | lst s => walk_at "wk"; simpa [isW, isTy] using h
  | scr s => walk_at "wk"; simpa [isW, isTy] using h
  | dct s t => walk_at "wk"; simpa [isW, isTy] using h
  | tup xs =>
    rw [isW] at h
    walk_at "wkn"
    by_cases e : (xs.length : Int) = n
    · rw [decide_eq_true e, Bool.true_and] at h
      rw [decide_eq_true e]
      walk_at "wkn"
      refine ⟨by have := hd.len xs rfl; omega, ?_⟩
      refine lc_wholes xs _ _ _ (fun x hx => okN_pln (hd.el xs rfl x hx)) ?_
      rw [List.nil_append]
      walk_at "wkn"
      rw [bls_all]
      walk_at "wkn"
      rw [show (xs.map isI).all (fun b => b) = xs.all isI from all_isI xs]
      exact h
    · rw [decide_eq_false e, Bool.false_and] at h
      rw [decide_eq_false e]
      walk_at "wkn"
      exact h
theorem w_is_place_v {T : Tk} {d : D} {k : KD} (hd : VOk d) (h : k (.bl (isPl d)) T) : sm_is_place [.val d] T k := by
  rw [e_is_place, b_is_place, k_FAR]
  walk_at "wkn"
  refine w_are_wholes_v hd ?_
  cases w : isW 3 d with
  | false =>
    rw [isPl_no w] at h
    walk_at "wkn"
    exact h
  | true =>
    obtain ⟨a, b, c, rfl⟩ := isW_3 w
    rw [isPl] at h
    walk_at "wkn"
    cases f : (decide (a = 1) && (decide (b = 0) && decide (c = 0))) with
    | true =>
      rw [f] at h
      walk_at "wkn"
      exact h
    | false =>
      rw [f, Bool.false_or] at h
      walk_at "wkn"
      by_cases p : 0 < c
      · rw [decide_eq_true p, Bool.true_and] at h
        rw [decide_eq_true p]
        walk_at "wkn"
        exact w_is_lowest (ns := [a, b, c]) (by simp) h
      · rw [decide_eq_false p, Bool.false_and] at h
        rw [decide_eq_false p]
        walk_at "wkn"
        exact h
theorem PlQ.cz {n : Nat} {p : P3} {u v : Rat} (h : PlQ n p u v) (l : n ≤ 100000) : Cz 100000 (p.1, p.2.1) := ⟨h.s1.mono l, h.s2.mono l⟩
theorem PlQ.nz {n : Nat} {q : P3} {u v : Rat} (h : PlQ n q u v) (h0 : ¬(q.1 = 0 ∧ q.2.1 = 0)) : u * u + v * v ≠ 0 := by
  have c := cnrm_pos (w := (q.1, q.2.1)) h0
  unfold cnrm at c
  simp only at c
  have e1 := h.e1
  have e2 := h.e2
  have e : ((q.1 * q.1 + q.2.1 * q.2.1 : Int) : Rat) = (u * u + v * v) * (q.2.2 * q.2.2 : Rat) := by push_cast; grind
  intro z
  rw [z] at e
  have : ((q.1 * q.1 + q.2.1 * q.2.1 : Int) : Rat) = ((0 : Int) : Rat) := by rw [e]; push_cast; grind
  have := cast_inj this
  omega
theorem w_quotient_place {T : Tk} {n : Nat} {a b c d : Int} {u v : Rat} {k : KD} (hz : Cz n (a, b)) (hw : Cz n (c, d)) (hn : n ≤ 4000) (h0 : 0 < cnrm (c, d)) (e1 : ((cmul (a, b) (cconj (c, d))).1 : Rat) = u * (cnrm (c, d) : Rat)) (e2 : ((cmul (a, b) (cconj (c, d))).2 : Rat) = v * (cnrm (c, d) : Rat))
    (h : ∀ q : P3, PlQ (n + n + 1) q u v → k (.tup [.int q.1, .int q.2.1, .int q.2.2]) T) : sm_quotient_place [.val (.tup [.int a, .int b]), .val (.tup [.int c, .int d])] T k := by
  rw [e_quotient_place, b_quotient_place, k_ZERO, k_FAR]
  walk_at "ev"
  refine ⟨⟨ok_cx, ok_cx⟩, ?_⟩
  rw [if_neg (fun e => by obtain ⟨rfl, rfl⟩ := e; exact absurd h0 (by decide))]
  refine w_turned_over ?_
  walk_at "ev"
  refine w_times (hz.mono (by omega)) (hw.conj.mono (by omega)) ?_
  rintro _ rfl
  walk_at "ev"
  refine w_square_size (hw.mono (by omega)) ?_
  walk_at "ev"
  have := hz.mul hw.conj
  exact w_low3 h0 this.1 this.2 hw.nrm (by omega) e1 e2 h
/-- q is the place of z over w -/
structure HP (n : Nat) (q : P3) (z w : Cx2) : Prop where
  pt : Pt n q
  e1 : q.1 * w.1 - q.2.1 * w.2 = q.2.2 * z.1
  e2 : q.1 * w.2 + q.2.1 * w.1 = q.2.2 * z.2
  nz : ¬((z.1 = 0 ∧ z.2 = 0) ∧ (w.1 = 0 ∧ w.2 = 0))
theorem HP.mono {m n : Nat} {q : P3} {z w : Cx2} (h : HP m q z w) (l : m ≤ n) : HP n q z w := ⟨h.pt.mono l, h.e1, h.e2, h.nz⟩
theorem cx_norm {a b c d : Int} (h : ¬(c = 0 ∧ d = 0)) (e1 : a * c - b * d = 0) (e2 : a * d + b * c = 0) : a = 0 ∧ b = 0 := by
  have n0 : c * c + d * d ≠ 0 := fun z => h (two_sq z)
  constructor
  · have : a * (c * c + d * d) = 0 := by
      have : a * (c * c + d * d) = (a * c - b * d) * c + (a * d + b * c) * d := by grind
      rw [this, e1, e2]; simp
    exact (Int.mul_eq_zero.mp this).resolve_right n0
  · have : b * (c * c + d * d) = 0 := by
      have : b * (c * c + d * d) = (a * d + b * c) * c - (a * c - b * d) * d := by grind
      rw [this, e1, e2]; simp
    exact (Int.mul_eq_zero.mp this).resolve_right n0
theorem HP.far {n : Nat} {q : P3} {z w : Cx2} (h : HP n q z w) : q.2.2 = 0 ↔ (w.1 = 0 ∧ w.2 = 0) := by
  constructor
  · intro e
    have := h.pt.far e
    have e1 := h.e1
    have e2 := h.e2
    rw [this] at e1 e2
    simp only [Int.one_mul, Int.zero_mul, Int.sub_zero, Int.add_zero] at e1 e2
    exact ⟨e1, e2⟩
  · rintro ⟨w1, w2⟩
    have e1 := h.e1
    have e2 := h.e2
    rw [w1, w2, Int.mul_zero, Int.mul_zero] at e1 e2
    by_cases r : q.2.2 = 0
    · exact r
    · exfalso
      apply h.nz
      refine ⟨⟨?_, ?_⟩, w1, w2⟩
      · exact (Int.mul_eq_zero.mp (by simpa using e1.symm)).resolve_left r
      · exact (Int.mul_eq_zero.mp (by simpa using e2.symm)).resolve_left r
/-- the same quotient -/
theorem HP.tr {n : Nat} {q : P3} {z w z' w' : Cx2} (h : HP n q z w) (nz : ¬((z'.1 = 0 ∧ z'.2 = 0) ∧ (w'.1 = 0 ∧ w'.2 = 0))) (e1 : z.1 * w'.1 - z.2 * w'.2 = z'.1 * w.1 - z'.2 * w.2) (e2 : z.1 * w'.2 + z.2 * w'.1 = z'.1 * w.2 + z'.2 * w.1) : HP n q z' w' := by
  have h1 := h.e1
  have h2 := h.e2
  by_cases w0 : w.1 = 0 ∧ w.2 = 0
  · have r := h.far.mpr w0
    have qf := h.pt.far r
    obtain ⟨w1, w2⟩ := w0
    rw [w1, w2] at e1 e2
    simp only [Int.mul_zero, Int.sub_zero, Int.add_zero] at e1 e2
    have z0 : ¬(z.1 = 0 ∧ z.2 = 0) := fun z0 => h.nz ⟨z0, w1, w2⟩
    have := cx_norm (a := w'.1) (b := w'.2) z0 (by rw [Int.mul_comm w'.1, Int.mul_comm w'.2]; exact e1) (by rw [Int.mul_comm w'.1, Int.mul_comm w'.2]; omega)
    refine ⟨h.pt, ?_, ?_, nz⟩
    · rw [qf, this.1, this.2]; simp
    · rw [qf, this.1, this.2]; simp
  · refine ⟨h.pt, ?_, ?_, nz⟩
    · have k := cx_norm (a := q.1 * w'.1 - q.2.1 * w'.2 - q.2.2 * z'.1) (b := q.1 * w'.2 + q.2.1 * w'.1 - q.2.2 * z'.2) w0 (by grind) (by grind)
      have := k.1
      omega
    · have k := cx_norm (a := q.1 * w'.1 - q.2.1 * w'.2 - q.2.2 * z'.1) (b := q.1 * w'.2 + q.2.1 * w'.1 - q.2.2 * z'.2) w0 (by grind) (by grind)
      have := k.2
      omega
theorem HP.self {n : Nat} {q : P3} (h : Pt n q) : HP n q (q.1, q.2.1) (q.2.2, 0) := by
  refine ⟨h, by simp only [Int.mul_zero, Int.sub_zero]; exact Int.mul_comm _ _, by simp only [Int.mul_zero, Int.zero_add]; exact Int.mul_comm _ _, ?_⟩
  rintro ⟨⟨a, b⟩, c, _⟩
  simp only at a b c
  have := h.far c
  rw [this] at a
  simp at a
theorem plq_hp {n : Nat} {q : P3} {u v : Rat} {z w : Cx2} (h : PlQ n q u v) (w0 : ¬(w.1 = 0 ∧ w.2 = 0)) (e1 : u * (w.1 : Rat) - v * (w.2 : Rat) = (z.1 : Rat)) (e2 : u * (w.2 : Rat) + v * (w.1 : Rat) = (z.2 : Rat)) : HP n q z w := by
  refine ⟨h.pt, cast_inj ?_, cast_inj ?_, fun e => w0 e.2⟩
  · push_cast; rw [h.e1, h.e2, ← e1]; generalize (q.2.2 : Rat) = R; grind
  · push_cast; rw [h.e1, h.e2, ← e2]; generalize (q.2.2 : Rat) = R; grind
theorem w_quotient_hp {T : Tk} {n : Nat} {z w : Cx2} {k : KD} (hz : Cz n z) (hw : Cz n w) (hn : n ≤ 4000) (nz : ¬((z.1 = 0 ∧ z.2 = 0) ∧ (w.1 = 0 ∧ w.2 = 0))) (h : ∀ q : P3, HP (2 * n + 1) q z w → k (.tup [.int q.1, .int q.2.1, .int q.2.2]) T) :
    sm_quotient_place [.val (.tup [.int z.1, .int z.2]), .val (.tup [.int w.1, .int w.2])] T k := by
  by_cases w0 : w.1 = 0 ∧ w.2 = 0
  · rw [e_quotient_place, b_quotient_place, k_ZERO, k_FAR]
    walk_at "ev"
    refine ⟨⟨ok_cx, ok_cx⟩, ?_⟩
    rw [if_pos w0]
    refine h (1, 0, 0) ⟨pt_far (by omega), ?_, ?_, nz⟩
    · rw [w0.1, w0.2]; simp
    · rw [w0.1, w0.2]; simp
  · have np := cnrm_pos w0
    have nr := rne' np
    refine w_quotient_place (u := ((cmul z (cconj w)).1 : Rat) / (cnrm w : Rat)) (v := ((cmul z (cconj w)).2 : Rat) / (cnrm w : Rat)) (show Cz n (z.1, z.2) from hz) (show Cz n (w.1, w.2) from hw) hn np ?_ ?_ fun q hq => h q ((plq_hp hq w0 ?_ ?_).mono (by omega))
    · show ((cmul z (cconj w)).1 : Rat) = _ * (cnrm w : Rat)
      generalize (cnrm w : Rat) = N at *
      grind
    · show ((cmul z (cconj w)).2 : Rat) = _ * (cnrm w : Rat)
      generalize (cnrm w : Rat) = N at *
      grind
    · unfold cnrm at nr ⊢
      unfold cmul cconj
      push_cast at nr ⊢
      generalize (w.1 : Rat) = a at *
      generalize (w.2 : Rat) = b at *
      generalize (z.1 : Rat) = c at *
      generalize (z.2 : Rat) = d at *
      grind
    · unfold cnrm at nr ⊢
      unfold cmul cconj
      push_cast at nr ⊢
      generalize (w.1 : Rat) = a at *
      generalize (w.2 : Rat) = b at *
      generalize (z.1 : Rat) = c at *
      generalize (z.2 : Rat) = d at *
      grind

/-- complex numbers with whole parts, as a ring -/
structure Gi where
  re : Int
  im : Int
theorem Gi.ext' {a b : Gi} (h : a.re = b.re) (q : a.im = b.im) : a = b := by
  cases a; cases b; simp only at h q; subst h q; rfl
def Gi.npw (a : Gi) : Nat → Gi
  | 0 => ⟨1, 0⟩
  | n + 1 => ⟨(Gi.npw a n).re * a.re - (Gi.npw a n).im * a.im, (Gi.npw a n).re * a.im + (Gi.npw a n).im * a.re⟩
instance : Add Gi := ⟨fun a b => ⟨a.re + b.re, a.im + b.im⟩⟩
instance : Mul Gi := ⟨fun a b => ⟨a.re * b.re - a.im * b.im, a.re * b.im + a.im * b.re⟩⟩
instance : Neg Gi := ⟨fun a => ⟨-a.re, -a.im⟩⟩
instance : Sub Gi := ⟨fun a b => ⟨a.re - b.re, a.im - b.im⟩⟩
instance : NatCast Gi := ⟨fun n => ⟨n, 0⟩⟩
instance : IntCast Gi := ⟨fun n => ⟨n, 0⟩⟩
instance (n : Nat) : OfNat Gi n := ⟨⟨n, 0⟩⟩
instance : SMul Nat Gi := ⟨fun n a => (n : Gi) * a⟩
instance : SMul Int Gi := ⟨fun n a => (n : Gi) * a⟩
instance : HPow Gi Nat Gi := ⟨Gi.npw⟩
theorem Gi.add_re (a b : Gi) : (a + b).re = a.re + b.re := rfl
theorem Gi.add_im (a b : Gi) : (a + b).im = a.im + b.im := rfl
theorem Gi.sub_re (a b : Gi) : (a - b).re = a.re - b.re := rfl
theorem Gi.sub_im (a b : Gi) : (a - b).im = a.im - b.im := rfl
theorem Gi.mul_re (a b : Gi) : (a * b).re = a.re * b.re - a.im * b.im := rfl
theorem Gi.mul_im (a b : Gi) : (a * b).im = a.re * b.im + a.im * b.re := rfl
theorem Gi.neg_re (a : Gi) : (-a).re = -a.re := rfl
theorem Gi.neg_im (a : Gi) : (-a).im = -a.im := rfl
theorem Gi.zero_re : (0 : Gi).re = 0 := rfl
theorem Gi.zero_im : (0 : Gi).im = 0 := rfl
theorem Gi.one_re : (1 : Gi).re = 1 := rfl
theorem Gi.one_im : (1 : Gi).im = 0 := rfl
theorem Gi.eq0 {a : Gi} : (a.re = 0 ∧ a.im = 0) ↔ a = 0 := ⟨fun ⟨x, y⟩ => Gi.ext' x y, fun h => by rw [h]; exact ⟨rfl, rfl⟩⟩
instance : Lean.Grind.CommRing Gi where
  add_zero a := Gi.ext' (Int.add_zero _) (Int.add_zero _)
  add_comm a b := Gi.ext' (Int.add_comm _ _) (Int.add_comm _ _)
  add_assoc a b c := Gi.ext' (Int.add_assoc _ _ _) (Int.add_assoc _ _ _)
  mul_assoc a b c := Gi.ext' (by simp only [Gi.mul_re, Gi.mul_im]; grind) (by simp only [Gi.mul_re, Gi.mul_im]; grind)
  mul_one a := Gi.ext' (by simp only [Gi.mul_re, Gi.one_re, Gi.one_im]; omega) (by simp only [Gi.mul_im, Gi.one_re, Gi.one_im]; omega)
  one_mul a := Gi.ext' (by simp only [Gi.mul_re, Gi.one_re, Gi.one_im]; omega) (by simp only [Gi.mul_im, Gi.one_re, Gi.one_im]; omega)
  right_distrib a b c := Gi.ext' (by simp only [Gi.mul_re, Gi.add_re, Gi.add_im]; grind) (by simp only [Gi.mul_im, Gi.add_re, Gi.add_im]; grind)
  mul_zero a := Gi.ext' (by simp only [Gi.mul_re, Gi.zero_re, Gi.zero_im]; omega) (by simp only [Gi.mul_im, Gi.zero_re, Gi.zero_im]; omega)
  left_distrib a b c := Gi.ext' (by simp only [Gi.mul_re, Gi.add_re, Gi.add_im]; grind) (by simp only [Gi.mul_im, Gi.add_re, Gi.add_im]; grind)
  zero_mul a := Gi.ext' (by simp only [Gi.mul_re, Gi.zero_re, Gi.zero_im]; omega) (by simp only [Gi.mul_im, Gi.zero_re, Gi.zero_im]; omega)
  pow_zero a := rfl
  pow_succ a n := rfl
  ofNat_succ n := Gi.ext' (by show ((n + 1 : Nat) : Int) = (n : Int) + 1; omega) rfl
  ofNat_eq_natCast n := rfl
  nsmul_eq_natCast_mul n a := rfl
  neg_add_cancel a := Gi.ext' (Int.add_left_neg _) (Int.add_left_neg _)
  sub_eq_add_neg a b := Gi.ext' Int.sub_eq_add_neg Int.sub_eq_add_neg
  neg_zsmul i a := Gi.ext' (by show (-i) * a.re - 0 * a.im = -(i * a.re - 0 * a.im); grind) (by show (-i) * a.im + 0 * a.re = -(i * a.im + 0 * a.re); grind)
  zsmul_natCast_eq_nsmul n a := rfl
  intCast_ofNat n := rfl
  intCast_neg i := Gi.ext' rfl (by show (0 : Int) = -0; rfl)
  mul_comm a b := Gi.ext' (by simp only [Gi.mul_re]; grind) (by simp only [Gi.mul_im]; grind)
def Gi.cj (a : Gi) : Gi := ⟨a.re, -a.im⟩
def Gi.nm (a : Gi) : Int := a.re * a.re + a.im * a.im
theorem Gi.nm_mul (a b : Gi) : (a * b).nm = a.nm * b.nm := by unfold Gi.nm; simp only [Gi.mul_re, Gi.mul_im]; grind
theorem Gi.nm_cj (a : Gi) : a.cj.nm = a.nm := by unfold Gi.nm Gi.cj; simp only; grind
theorem Gi.nm_nn (a : Gi) : 0 ≤ a.nm := by
  have := mul_self_nonneg' a.re
  have := mul_self_nonneg' a.im
  unfold Gi.nm; omega
theorem Gi.nm_zero {a : Gi} (h : a.nm = 0) : a = 0 := by
  unfold Gi.nm at h
  have h1 := mul_self_nonneg' a.re
  have h2 := mul_self_nonneg' a.im
  refine Gi.ext' ?_ ?_
  · by_cases c : a.re = 0
    · exact c
    · have := imul_self_pos c; omega
  · by_cases c : a.im = 0
    · exact c
    · have := imul_self_pos c; omega
theorem Gi.nm_pos {a : Gi} (h : a ≠ 0) : 0 < a.nm := by
  rcases Int.lt_or_eq_of_le a.nm_nn with e | e
  · exact e
  · exact absurd (Gi.nm_zero e.symm) h
theorem Gi.nm_of_zero : (0 : Gi).nm = 0 := rfl
theorem Gi.mul_zero' {a b : Gi} (h : a * b = 0) : a = 0 ∨ b = 0 := by
  have e := Gi.nm_mul a b
  rw [h, Gi.nm_of_zero] at e
  rcases Int.mul_eq_zero.mp e.symm with f | f
  · exact .inl (Gi.nm_zero f)
  · exact .inr (Gi.nm_zero f)
theorem Gi.cancel {a b c : Gi} (h : c ≠ 0) (e : c * a = c * b) : a = b := by
  have : c * (a - b) = 0 := by grind
  have := (Gi.mul_zero' this).resolve_left h
  grind
instance : DecidableEq Gi := fun a b => if h : a.re = b.re ∧ a.im = b.im then .isTrue (Gi.ext' h.1 h.2) else .isFalse fun e => h (by rw [e]; exact ⟨rfl, rfl⟩)
/-- norms below 2 ^ n -/
def Nz (n : Nat) (a : Gi) : Prop := a.nm < 2 ^ n
theorem Nz.sz {n : Nat} {a : Gi} (h : Nz n a) : Sz n a.re ∧ Sz n a.im := by
  unfold Nz Gi.nm at h
  have h1 := mul_self_nonneg' a.re
  have h2 := mul_self_nonneg' a.im
  have key : ∀ x : Int, x * x < 2 ^ n → Sz n x := fun x hx => by
    have e : ((x.natAbs * x.natAbs : Nat) : Int) = x * x := Int.natAbs_mul_self' x ▸ (by push_cast; rfl)
    have e2 : x.natAbs * x.natAbs < 2 ^ n := by
      have : ((x.natAbs * x.natAbs : Nat) : Int) < ((2 ^ n : Nat) : Int) := by rw [e]; push_cast; exact hx
      exact_mod_cast this
    have : x.natAbs ≤ x.natAbs * x.natAbs := by
      rcases Nat.eq_zero_or_pos x.natAbs with z | z
      · rw [z]; exact Nat.le_refl _
      · exact Nat.le_mul_of_pos_left _ z
    unfold Sz
    omega
  exact ⟨key _ (by omega), key _ (by omega)⟩
theorem Nz.mono {m n : Nat} {a : Gi} (h : Nz m a) (l : m ≤ n) : Nz n a := by
  have : (2 : Int) ^ m ≤ 2 ^ n := by exact_mod_cast Nat.pow_le_pow_right (n := 2) (by decide) l
  unfold Nz at *
  omega
theorem Nz.cj {n : Nat} {a : Gi} (h : Nz n a) : Nz n a.cj := by unfold Nz at *; rw [Gi.nm_cj]; exact h
theorem Nz.dvd {n : Nat} {a b : Gi} (hb : b ≠ 0) (h : Nz n (b * a)) : Nz n a := by
  unfold Nz at *
  rw [Gi.nm_mul] at h
  have h1 := Gi.nm_pos hb
  have h2 := a.nm_nn
  have : a.nm ≤ b.nm * a.nm := by
    have := Int.mul_le_mul_of_nonneg_right (show 1 ≤ b.nm by omega) h2
    omega
  omega
theorem Nz.mul {m n : Nat} {a b : Gi} (h : Nz m a) (q : Nz n b) : Nz (m + n) (a * b) := by
  unfold Nz at *
  rw [Gi.nm_mul, Int.pow_add]
  generalize (2 : Int) ^ m = A at *
  generalize (2 : Int) ^ n = B at *
  have ha := a.nm_nn
  have hb := b.nm_nn
  have h1 := Int.mul_le_mul (show a.nm ≤ A - 1 by omega) (show b.nm ≤ B - 1 by omega) hb (by omega)
  have h2 : (A - 1) * (B - 1) = A * B - A - B + 1 := by grind
  omega
theorem Nz.add {n : Nat} {a b : Gi} (h : Nz n a) (q : Nz n b) : Nz (n + 2) (a + b) := by
  unfold Nz at *
  have e : (a + b).nm ≤ 2 * a.nm + 2 * b.nm := by
    have d : 2 * a.nm + 2 * b.nm - (a + b).nm = (a - b).nm := by unfold Gi.nm; simp only [Gi.add_re, Gi.add_im, Gi.sub_re, Gi.sub_im]; grind
    have := (a - b).nm_nn
    omega
  have p : (2 : Int) ^ (n + 2) = 4 * 2 ^ n := by rw [Int.pow_add]; omega
  omega
theorem Nz.neg {n : Nat} {a : Gi} (h : Nz n a) : Nz n (-a) := by
  unfold Nz at *
  have : (-a).nm = a.nm := by unfold Gi.nm; simp only [Gi.neg_re, Gi.neg_im]; grind
  omega
/-- g is a greatest common divisor of a and b -/
structure G2 (g a b : Gi) : Prop where
  l : ∃ x, a = x * g
  r : ∃ x, b = x * g
  s : ∃ u v, g = u * a + v * b
theorem G2.zero (a : Gi) : G2 a a 0 := ⟨⟨1, by grind⟩, ⟨0, by grind⟩, ⟨1, 0, by grind⟩⟩
theorem G2.step {g a b q : Gi} (h : G2 g b (a - q * b)) : G2 g a b := by
  obtain ⟨⟨x, hx⟩, ⟨y, hy⟩, u, v, hs⟩ := h
  exact ⟨⟨y + q * x, by grind⟩, ⟨x, hx⟩, v, u - v * q, by grind⟩
def nearI (a n : Int) : Int := (2 * a + n) / (2 * n)
theorem nearI_ok {a n : Int} (h : 0 < n) : -n ≤ 2 * (a - nearI a n * n) ∧ 2 * (a - nearI a n * n) ≤ n := by
  unfold nearI
  have e := Int.mul_ediv_add_emod (2 * a + n) (2 * n)
  have l := Int.emod_nonneg (2 * a + n) (show 2 * n ≠ 0 by omega)
  have r := Int.emod_lt_of_pos (2 * a + n) (show 0 < 2 * n by omega)
  generalize (2 * a + n) / (2 * n) = q at *
  generalize (2 * a + n) % (2 * n) = t at *
  have : 2 * (q * n) = 2 * n * q := by grind
  constructor <;> grind
def nearG (a b : Gi) : Gi := ⟨nearI (a * b.cj).re b.nm, nearI (a * b.cj).im b.nm⟩
theorem sq_half {x n : Int} (h1 : -n ≤ 2 * x) (h2 : 2 * x ≤ n) : 4 * (x * x) ≤ n * n := by
  have := Int.mul_nonneg (show 0 ≤ n - 2 * x by omega) (show 0 ≤ n + 2 * x by omega)
  have : (n - 2 * x) * (n + 2 * x) = n * n - 4 * (x * x) := by grind
  omega
theorem nearG_nm {a b : Gi} (h : b ≠ 0) : 2 * (a - nearG a b * b).nm ≤ b.nm := by
  have p := Gi.nm_pos h
  have e : (a - nearG a b * b) * b.cj = ⟨(a * b.cj).re - nearI (a * b.cj).re b.nm * b.nm, (a * b.cj).im - nearI (a * b.cj).im b.nm * b.nm⟩ := by
    have f : b * b.cj = ⟨b.nm, 0⟩ := Gi.ext' (by show b.re * b.re - b.im * -b.im = b.re * b.re + b.im * b.im; grind) (by show b.re * -b.im + b.im * b.re = 0; grind)
    have g : (a - nearG a b * b) * b.cj = a * b.cj - nearG a b * (b * b.cj) := by grind
    rw [g, f]
    refine Gi.ext' ?_ ?_
    · simp only [Gi.sub_re, Gi.mul_re, nearG]; grind
    · simp only [Gi.sub_im, Gi.mul_im, nearG]; grind
  have m := Gi.nm_mul (a - nearG a b * b) b.cj
  rw [e, Gi.nm_cj] at m
  obtain ⟨h1, h2⟩ := nearI_ok (a := (a * b.cj).re) p
  obtain ⟨h3, h4⟩ := nearI_ok (a := (a * b.cj).im) p
  have q1 := sq_half h1 h2
  have q2 := sq_half h3 h4
  have : 4 * ((a - nearG a b * b).nm * b.nm) ≤ 2 * (b.nm * b.nm) := by
    have m' : (a - nearG a b * b).nm * b.nm = ((a * b.cj).re - nearI (a * b.cj).re b.nm * b.nm) * ((a * b.cj).re - nearI (a * b.cj).re b.nm * b.nm) + ((a * b.cj).im - nearI (a * b.cj).im b.nm * b.nm) * ((a * b.cj).im - nearI (a * b.cj).im b.nm * b.nm) := m.symm
    omega
  have : (2 * (a - nearG a b * b).nm) * b.nm ≤ b.nm * b.nm := by
    have : (2 * (a - nearG a b * b).nm) * b.nm = 2 * ((a - nearG a b * b).nm * b.nm) := by grind
    omega
  exact Int.le_of_mul_le_mul_right this p
theorem G2.nz {g a b : Gi} (h : G2 g a b) (z : g = 0) : a = 0 ∧ b = 0 := by
  obtain ⟨⟨x, hx⟩, ⟨y, hy⟩, _⟩ := h
  subst z
  constructor <;> grind
abbrev G4 := Gi × Gi × Gi × Gi
/-- g is a greatest common divisor of four numbers -/
structure GD (g : Gi) (m : G4) : Prop where
  d1 : ∃ x, m.1 = x * g
  d2 : ∃ x, m.2.1 = x * g
  d3 : ∃ x, m.2.2.1 = x * g
  d4 : ∃ x, m.2.2.2 = x * g
  s : ∃ u v w t, g = u * m.1 + v * m.2.1 + w * m.2.2.1 + t * m.2.2.2
def fst4 (m : G4) : Gi := if m.1 ≠ 0 then m.1 else if m.2.1 ≠ 0 then m.2.1 else if m.2.2.1 ≠ 0 then m.2.2.1 else m.2.2.2
def scl (c : Gi) (m : G4) : G4 := (c * m.1, c * m.2.1, c * m.2.2.1, c * m.2.2.2)
/-- in the quarter -/
def Qf (a : Gi) : Prop := 0 < a.re ∧ 0 ≤ a.im
structure Mp (m : G4) : Prop where
  bez : ∃ u v w t, u * m.1 + v * m.2.1 + w * m.2.2.1 + t * m.2.2.2 = 1
  qf : Qf (fst4 m)
theorem unit_nm {s t : Gi} (h : s * t = 1) : s.nm = 1 := by
  have e := Gi.nm_mul s t
  rw [h] at e
  have e : s.nm * t.nm = 1 := e.symm
  have h1 := s.nm_nn
  have h2 := t.nm_nn
  have s0 : s.nm ≠ 0 := fun z => by rw [z, Int.zero_mul] at e; omega
  have t0 : t.nm ≠ 0 := fun z => by rw [z, Int.mul_zero] at e; omega
  have := Int.mul_le_mul_of_nonneg_left (show 1 ≤ t.nm by omega) h1
  omega
theorem unit_4 {s : Gi} (h : s.nm = 1) : (s.re = 1 ∧ s.im = 0) ∨ (s.re = -1 ∧ s.im = 0) ∨ (s.re = 0 ∧ s.im = 1) ∨ (s.re = 0 ∧ s.im = -1) := by
  unfold Gi.nm at h
  have h1 := mul_self_nonneg' s.re
  have h2 := mul_self_nonneg' s.im
  have k : ∀ x : Int, x * x ≤ 1 → x = 0 ∨ x = 1 ∨ x = -1 := fun x hx => by
    rcases Int.lt_trichotomy x 0 with f | f | f
    · by_cases g : x = -1
      · exact .inr (.inr g)
      · have := Int.mul_le_mul_of_nonneg_left (show 2 ≤ -x by omega) (show 0 ≤ -x by omega); rw [Int.neg_mul_neg] at this; omega
    · exact .inl f
    · by_cases g : x = 1
      · exact .inr (.inl g)
      · have := Int.mul_le_mul_of_nonneg_left (show 2 ≤ x by omega) (show 0 ≤ x by omega); omega
  rcases k s.re (by omega) with f | f | f <;> rcases k s.im (by omega) with g | g | g <;> rw [f, g] at h ⊢ <;> simp at h ⊢
theorem qf_unit {s f : Gi} (h : s.nm = 1) (q : Qf f) (q' : Qf (s * f)) : s = 1 := by
  unfold Qf at q q'
  rw [Gi.mul_re, Gi.mul_im] at q'
  rcases unit_4 h with ⟨a, b⟩ | ⟨a, b⟩ | ⟨a, b⟩ | ⟨a, b⟩ <;> rw [a, b] at q'
  · exact Gi.ext' a b
  · omega
  · omega
  · omega
abbrev gD (a : Gi) : D := .tup [.int a.re, .int a.im]
theorem ok_gD {a : Gi} : (gD a).eqOk := ok_cx
theorem Nz.cz {n : Nat} {a : Gi} (h : Nz n a) : Cz n (a.re, a.im) := h.sz
theorem sz_nm {n : Nat} {a : Gi} (h : Nz n a) : Sz n a.nm := by
  have := a.nm_nn
  unfold Nz at h
  unfold Sz
  have e : ((2 ^ n : Nat) : Int) = 2 ^ n := by push_cast; rfl
  omega
theorem w_nearest {T : Tk} {a n : Int} {k : KD} (h0 : 0 < n) (hs : Sz 8000 n) (h : k (.int (nearI a n)) T) : sm_nearest [.val (.int a), .val (.int n)] T k := by
  rw [e_nearest, b_nearest]
  walk_at "evn"
  exact ⟨lit_mul (by decide), lit_mul (by decide), ((show Sz 2 2 by unfold Sz; decide).mul hs).divOk (by decide) (by omega), h⟩
theorem w_timesG {T : Tk} {m n : Nat} {a b : Gi} {k : KD} (ha : Cz m (a.re, a.im)) (hb : Cz n (b.re, b.im)) (hm : m ≤ 100000) (hn : n ≤ 100000) (h : k (gD (a * b)) T) : sm_times [.val (gD a), .val (gD b)] T k :=
  w_times (ha.mono hm) (hb.mono hn) fun p hp => by subst hp; exact h
theorem w_minusG {T : Tk} {a b : Gi} {k : KD} (h : k (gD (a - b)) T) : sm_minus [.val (gD a), .val (gD b)] T k := w_minus h
theorem w_plusG {T : Tk} {a b : Gi} {k : KD} (h : k (gD (a + b)) T) : sm_plus [.val (gD a), .val (gD b)] T k := w_plus h
theorem w_turnG {T : Tk} {a : Gi} {k : KD} (h : k (gD a.cj) T) : sm_turned_over [.val (gD a)] T k := w_turned_over h
theorem w_divisor_of_twoW {T : Tk} {n : Nat} {a b : Gi} {k : KD} (ha : Nz n a) (hb : Nz n b) (hn : n ≤ 7000) (h : ∀ g, G2 g a b → Nz n g → k (gD g) T) : sm_divisor_of_two [.val (gD a), .val (gD b)] T k := by
  rw [e_divisor_of_two, b_divisor_of_two, k_ZERO]
  walk_at "evm"
  unfold sWhile
  refine ⟨fun m ρ T' => T' = T ∧ ∃ (c d : Gi) (x y : Option SV), ρ = [some (.val (gD a)), some (.val (gD b)), some (.val (gD c)), some (.val (gD d)), x, y] ∧ m = d.nm.toNat ∧ Nz n c ∧ Nz n d ∧ ∀ g, G2 g c d → G2 g a b, ⟨_, rfl, a, b, none, none, rfl, rfl, ha, hb, fun _ q => q⟩, ?_⟩
  rintro m ρ T' ⟨rfl, c, d, x, y, rfl, rfl, hc, hd, tr⟩
  walk_at "evm"
  refine ⟨⟨ok_gD, ok_cx⟩, ?_⟩
  by_cases d0 : d = 0
  · rw [if_neg (by rw [d0]; decide)]
    subst d0
    exact h c (tr c (G2.zero c)) hc
  have p := Gi.nm_pos d0
  rw [if_pos (by
    have : ¬(d.re = 0 ∧ d.im = 0) := fun z => d0 (Gi.eq0.mp z)
    simp only [Bool.and_eq_false_imp, decide_eq_true_eq, decide_eq_false_iff_not]
    first | exact fun z1 z2 => this ⟨z1, z2⟩ | simpa using this)]
  refine w_turnG ?_
  walk_at "evm"
  refine w_timesG (b := d.cj) hc.cz (hd.cj).cz (by omega) (by omega) ?_
  walk_at "evm"
  refine w_square_size ((hd.cz).mono (by omega)) ?_
  walk_at "evm"
  refine w_nearest p ((sz_nm hd).mono (by omega)) ?_
  walk_at "evm"
  refine w_square_size ((hd.cz).mono (by omega)) ?_
  walk_at "evm"
  refine w_nearest p ((sz_nm hd).mono (by omega)) ?_
  walk_at "evm"
  have nq : Nz (n + 2) (nearG c d) := by
    have h2 : Nz n (c - nearG c d * d) := by
      have := nearG_nm (a := c) d0
      have := (c - nearG c d * d).nm_nn
      unfold Nz at hd ⊢
      omega
    refine Nz.dvd d0 ?_
    have e : d * nearG c d = c + -(c - nearG c d * d) := by grind
    rw [e]
    exact hc.add h2.neg
  refine w_timesG (a := nearG c d) (b := d) nq.cz hd.cz (by omega) (by omega) ?_
  walk_at "evm"
  refine w_minusG ?_
  walk_at "evm"
  have lt := nearG_nm (a := c) d0
  have nn := (c - nearG c d * d).nm_nn
  refine ⟨(c - nearG c d * d).nm.toNat, by omega, d, c - nearG c d * d, _, _, rfl, rfl, hd, ?_, fun g hg => tr g (G2.step hg)⟩
  unfold Nz at hd ⊢
  omega
theorem w_divisor_of_two {T : Tk} {n : Nat} {a b : Gi} {k : KD} (ha : Nz n a) (hb : Nz n b) (hn : n ≤ 2000) (h : ∀ g, G2 g a b → Nz n g → k (gD g) T) : sm_divisor_of_two [.val (gD a), .val (gD b)] T k := w_divisor_of_twoW ha hb (by omega) h

theorem nm1_inv {u : Gi} (h : u.nm = 1) : u * u.cj = 1 := Gi.ext' (by show u.re * u.re - u.im * -u.im = 1; unfold Gi.nm at h; grind) (by show u.re * -u.im + u.im * u.re = 0; grind)
/-- m is the map of four numbers -/
structure Fm (n : Nat) (N m : G4) : Prop where
  mp : Mp m
  c : ∃ c, c ≠ 0 ∧ N = scl c m
  s1 : Nz n m.1
  s2 : Nz n m.2.1
  s3 : Nz n m.2.2.1
  s4 : Nz n m.2.2.2
theorem nz_of {n : Nat} {a b : Int} (h : Sz n a) (q : Sz n b) : Nz (2 * n + 2) ⟨a, b⟩ := by
  have h1 : Sz (n + n + 1) (a * a + b * b) := ((h.mul h).add (q.mul q)).mono (by omega)
  have nn := Gi.nm_nn ⟨a, b⟩
  unfold Nz
  unfold Sz at h1
  have e : (⟨a, b⟩ : Gi).nm = a * a + b * b := rfl
  rw [e] at nn ⊢
  have l : (2 : Int) ^ (n + n + 1) ≤ 2 ^ (2 * n + 2) := by exact_mod_cast Nat.pow_le_pow_right (n := 2) (by decide) (by omega)
  have h2 : ((a * a + b * b).natAbs : Int) < 2 ^ (n + n + 1) := by exact_mod_cast h1
  omega
theorem dec_gi {a : Gi} : (decide (a.re = 0) && decide (a.im = 0)) = decide (a = 0) := by
  by_cases q : a = 0
  · rw [q]; rfl
  · have : ¬(a.re = 0 ∧ a.im = 0) := fun z => q (Gi.eq0.mp z)
    rw [decide_eq_false q]
    simpa using this
theorem isq_nonneg (n : Int) : 0 ≤ isq n := Int.natCast_nonneg _
theorem isq_spec {n : Int} (h : 0 ≤ n) : isq n * isq n ≤ n ∧ n < (isq n + 1) * (isq n + 1) := by
  obtain ⟨m, rfl⟩ := Int.eq_ofNat_of_zero_le h
  have := Float64.isqrt_spec m
  unfold isq
  rw [Int.toNat_natCast]
  generalize Float64.isqrt m = r at *
  constructor
  · exact_mod_cast this.1
  · exact_mod_cast this.2
theorem imax0_nn (a : Int) : 0 ≤ iMax 0 a := by unfold iMax; split <;> omega
theorem isq_le {n : Int} (h : 0 ≤ n) : isq n ≤ n := by
  obtain ⟨a, _⟩ := isq_spec h
  have h0 := isq_nonneg n
  rcases Int.lt_or_le (isq n) 1 with q | q
  · omega
  · have := Int.mul_le_mul_of_nonneg_left q h0
    omega
theorem isq_sz {m : Nat} {n : Int} (h : 0 ≤ n) (q : Sz m n) : Sz m (isq n) := by
  have := isq_le h
  have := isq_nonneg n
  unfold Sz at *
  omega
theorem imax_sz {m : Nat} {n : Int} (q : Sz m n) : Sz m (iMax 0 n) := by
  unfold iMax
  split
  · exact q
  · exact Nat.two_pow_pos m
def cfound (z : Cx2) : Cx2 := (isq (iMax 0 ((isq (cnrm z) + z.1) / 2)), if 0 ≤ z.2 then isq (iMax 0 ((isq (cnrm z) - z.1) / 2)) else -isq (iMax 0 ((isq (cnrm z) - z.1) / 2)))
def croot (z : Cx2) : Option Cx2 := if cmul (cfound z) (cfound z) = z then some (cfound z) else none
theorem nrm_nonneg (w : Cx2) : 0 ≤ cnrm w := Int.add_nonneg (mul_self_nonneg' _) (mul_self_nonneg' _)
theorem w_root {T : Tk} {a b : Int} {k : KD} (hz : Cz 4000 (a, b)) (h : k (ocx (croot (a, b))) T) : sm_root [.val (.tup [.int a, .int b])] T k := by
  rw [e_root, b_root]
  walk_at "ev"
  refine w_square_size (hz.mono (by decide)) ?_
  walk_at "ev"
  have sn : Sz 8001 (cnrm (a, b)) := hz.nrm
  have n0 := nrm_nonneg (a, b)
  have sl := isq_sz n0 sn
  have sa : Sz 8001 a := hz.1.mono (by decide)
  have s1 : Sz 8002 (iMax 0 ((isq (cnrm (a, b)) + a) / 2)) := imax_sz ((sl.add sa).ediv)
  have s2 : Sz 8002 (iMax 0 ((isq (cnrm (a, b)) - a) / 2)) := imax_sz ((sl.sub sa).ediv)
  refine ⟨⟨n0, sn.mono (by decide)⟩, lit_div (by decide) (by decide), ⟨imax0_nn _, s1.mono (by decide)⟩, lit_div (by decide) (by decide), ⟨imax0_nn _, s2.mono (by decide)⟩, ?_⟩
  have t1 := isq_sz (imax0_nn _) s1
  have t2 := isq_sz (imax0_nn _) s2
  unfold croot at h
  have go : ∀ c : Int, Sz 8002 c → cfound (a, b) = (isq (iMax 0 ((isq (cnrm (a, b)) + a) / 2)), c) → sm_times [SV.val (D.tup [D.int (isq (iMax 0 ((isq (cnrm (a, b)) + a) / 2))), D.int c]), SV.val (D.tup [D.int (isq (iMax 0 ((isq (cnrm (a, b)) + a) / 2))), D.int c])] T fun x T1 =>
      match fEq x (D.tup [D.int a, D.int b]) with
      | some p => p.fst ∧ (match p.snd with | D.bl c' => if c' = true then k (D.tup [D.int (isq (iMax 0 ((isq (cnrm (a, b)) + a) / 2))), D.int c]) T1 else k D.non T1 | x => False)
      | none => False := by
    intro c hc e
    have cz : Cz 100000 (isq (iMax 0 ((isq (cnrm (a, b)) + a) / 2)), c) := ⟨t1.mono (by decide), hc.mono (by decide)⟩
    refine w_times cz cz ?_
    rintro p hp
    walk_at "ev"
    refine ⟨⟨ok_cx, ok_cx⟩, ?_⟩
    rw [e, ← hp] at h
    by_cases q : p.1 = a ∧ p.2 = b
    · rw [if_pos q]
      rw [if_pos (by ext; exact q.1; exact q.2)] at h
      exact h
    · rw [if_neg q]
      rw [if_neg (fun e => q (by rw [e]; exact ⟨rfl, rfl⟩))] at h
      exact h
  split
  · rename_i q
    exact go _ t2 (by unfold cfound; rw [if_pos q])
  · rename_i q
    exact go _ t2.neg (by unfold cfound; rw [if_neg q])
/-- d divides each of some -/
def Dv (ns : List Gi) (d : Gi) : Prop := ∀ a ∈ ns, ∃ x, a = x * d
/-- g is a greatest common divisor of some -/
structure GL (g : Gi) (ns : List Gi) : Prop where
  d : Dv ns g
  u : ∀ h, Dv ns h → ∃ x, g = x * h
theorem GL.nil : GL 0 [] := ⟨fun a h => (by cases h), fun h _ => ⟨0, by grind⟩⟩
theorem GL.snoc {g g' a : Gi} {ns : List Gi} (h : GL g ns) (q : G2 g' g a) : GL g' (ns ++ [a]) := by
  obtain ⟨⟨x, hx⟩, ⟨y, hy⟩, u, v, hs⟩ := q
  refine ⟨fun b hb => ?_, fun d hd => ?_⟩
  · rcases List.mem_append.mp hb with hb | hb
    · obtain ⟨z, hz⟩ := h.d b hb
      exact ⟨z * x, by grind⟩
    · rw [List.mem_singleton.mp hb]
      exact ⟨y, hy⟩
  · obtain ⟨z, hz⟩ := h.u d fun b hb => hd b (List.mem_append_left _ hb)
    obtain ⟨w, hw⟩ := hd a (List.mem_append_right _ List.mem_cons_self)
    exact ⟨u * z + v * w, by grind⟩
theorem GL.unit {g u : Gi} {ns : List Gi} (h : GL g ns) (hu : u.nm = 1) : GL (u * g) ns := by
  have e := nm1_inv hu
  refine ⟨fun b hb => ?_, fun d hd => ?_⟩
  · obtain ⟨z, hz⟩ := h.d b hb
    exact ⟨z * u.cj, by grind⟩
  · obtain ⟨z, hz⟩ := h.u d hd
    exact ⟨u * z, by grind⟩
theorem qf_ne {g : Gi} (h : Qf g) : g ≠ 0 := fun e => by
  have := h.1
  rw [e] at this
  exact absurd this (by decide)
theorem qf_same {g g' x y : Gi} (h : g = x * g') (h' : g' = y * g) (q : Qf g) (q' : Qf g') : g = g' := by
  have e : x * y = 1 := Gi.cancel (qf_ne q) (by grind)
  have un := unit_nm e
  rw [h] at q
  have := qf_unit un q' q
  rw [h, this]
  grind
theorem GL.mul {g G c u : Gi} {ns : List Gi} (h : GL g ns) (h' : GL G (ns.map fun a => a * c)) (hc : c ≠ 0) (hu : u.nm = 1) (q : Qf G) (q' : Qf (u * (g * c))) : G = u * (g * c) := by
  have e := nm1_inv hu
  obtain ⟨x, hx⟩ := h'.u c fun a ha => by
    obtain ⟨b, hb, rfl⟩ := List.mem_map.mp ha
    exact ⟨b, rfl⟩
  obtain ⟨y, hy⟩ := h.u x fun a ha => by
    obtain ⟨z, hz⟩ := h'.d (a * c) (List.mem_map.mpr ⟨a, ha, rfl⟩)
    refine ⟨z, Gi.cancel hc ?_⟩
    grind
  obtain ⟨z, hz⟩ := h'.u (g * c) fun a ha => by
    obtain ⟨b, hb, rfl⟩ := List.mem_map.mp ha
    obtain ⟨w, hw⟩ := h.d b hb
    exact ⟨w, by grind⟩
  exact qf_same (x := z * u.cj) (y := u * y) (by grind) (by grind) q q'
theorem GL.ne {g : Gi} {ns : List Gi} (h : GL g ns) (nz : ∃ a ∈ ns, a ≠ 0) : g ≠ 0 := fun e => by
  obtain ⟨a, ha, ne⟩ := nz
  obtain ⟨x, hx⟩ := h.d a ha
  exact ne (by rw [hx, e]; grind)
theorem gmul_comm (a b : Gi) : a * b = b * a := by grind
theorem nz_zero {n : Nat} : Nz n 0 := by unfold Nz; rw [Gi.nm_of_zero]; exact Int.pow_pos (by decide)
theorem tups_gD : ∀ ns : List Gi, tups? (ns.map gD) = some (ns.map fun a => [a.re, a.im])
  | [] => rfl
  | a :: ns => by
    rw [List.map_cons, List.map_cons]
    unfold tups?
    rw [tups_gD ns]
    rfl
theorem setEq_gD {ns : List Gi} (h : ∃ a ∈ ns, a ≠ 0) : setEqD (.tup (ns.map gD)) (.tup [.int 0, .int 0]) = false := by
  show setEq2 (tups? (ns.map gD)) (nums? [.int 0, .int 0]) = false
  rw [tups_gD]
  refine decide_eq_false fun ⟨_, q⟩ => ?_
  obtain ⟨a, ha, ne⟩ := h
  have := q _ (List.mem_map.mpr ⟨a, ha, rfl⟩)
  injection this with e1 e2
  injection e2 with e2 _
  exact ne (Gi.eq0.mp ⟨e1, e2⟩)
theorem dva_loop {E : dEnds} {T : Tk} {A0 : Option SV} {n : Nat} (hn : n ≤ 2000) : ∀ (rest done : List Gi) (g : Gi) (x2 : Option SV), GL g done → Nz n g → (∀ a ∈ rest, Nz n a) → (∀ g' x2, GL g' (done ++ rest) → Nz n g' → E.nx [A0, some (.val (gD g')), x2] T) →
    forL (gN 2) (sAsg (dCall 2 sm_divisor_of_two (aCons (dVar 1) (aCons (dVar 2) (aNil)))) (gN 1)) E (rest.map gD) [A0, some (.val (gD g)), x2] T
  | [], done, g, x2, h, ng, _, nx => nx g x2 (by rw [List.append_nil]; exact h) ng
  | a :: rest, done, g, x2, h, ng, hs, nx => by
    rw [List.map_cons, forL_c]
    have ih := fun g' x2 (h1 : G2 g' g a) n1 => dva_loop (E := E) (T := T) (A0 := A0) hn rest (done ++ [a]) g' x2 (h.snoc h1) n1 (fun b hb => hs b (List.mem_cons_of_mem _ hb)) fun g2 x2 h2 n2 => nx g2 x2 (by rw [List.append_assoc] at h2; exact h2) n2
    generalize forL (gN 2) (sAsg (dCall 2 sm_divisor_of_two (aCons (dVar 1) (aCons (dVar 2) (aNil)))) (gN 1)) E (rest.map gD) = F at ih ⊢
    walk_at "wk"
    refine w_divisor_of_two ng (hs a List.mem_cons_self) hn fun g1 h1 n1 => ?_
    walk_at "wk"
    exact ih g1 _ h1 n1
theorem w_divisor_of_allL {T : Tk} {n : Nat} {ns : List Gi} {k : KD} (l : ns.length ≤ 8) (hs : ∀ a ∈ ns, Nz n a) (hn : n ≤ 2000) (h : ∀ g, GL g ns → Nz n g → k (gD g) T) : sm_divisor_of_all [.val (.tup (ns.map gD))] T k := by
  rw [e_divisor_of_all, b_divisor_of_all, k_ZERO]
  walk_at "wkn"
  refine ⟨by rw [List.length_map]; omega, ?_⟩
  rw [show (D.tup [.int 0, .int 0]) = gD 0 from rfl]
  refine dva_loop hn ns [] 0 _ GL.nil nz_zero hs fun g x2 hg ng => ?_
  walk_at "wk"
  exact h g hg ng
theorem isW_2 {d : D} (h : isW 2 d = true) : ∃ a b, d = .tup [.int a, .int b] := by
  cases d with
  | tup xs =>
    simp only [isW, Bool.and_eq_true, decide_eq_true_eq] at h
    obtain ⟨hl, ha⟩ := h
    match xs, hl with
    | [x, y], _ =>
      simp only [List.all_cons, List.all_nil, Bool.and_true, Bool.and_eq_true] at ha
      obtain ⟨h1, h2⟩ := ha
      cases x <;> first | (simp only [isI] at h1; exact absurd h1 (by decide)) | skip
      cases y <;> first | (simp only [isI] at h2; exact absurd h2 (by decide)) | skip
      exact ⟨_, _, rfl⟩
    | [], h => exact absurd h (by decide)
    | [_], h => simp at h
    | _ :: _ :: _ :: _, h => simp at h; omega
  | _ => simp only [isW] at h; exact absurd h (by decide)
theorem w_is_complex_v {T : Tk} {d : D} {k : KD} (hd : VOk d) (h : k (.bl (isW 2 d)) T) : sm_is_complex [.val d] T k := by
  rw [e_is_complex, b_is_complex]
  walk_at "wk"
  exact w_are_wholes_v hd h
theorem cg_of {d : D} (hd : VOk d) (h : isW 2 d = true) : ∃ g : Gi, d = gD g ∧ Cz 100 (g.re, g.im) := by
  obtain ⟨a, b, rfl⟩ := isW_2 h
  have s := hd.sz _ rfl
  exact ⟨⟨a, b⟩, rfl, s a (by simp), s b (by simp)⟩
/-- a place that is not far -/
def isRt : D → Bool
  | .tup [.int a, .int b, .int c] => decide (0 < c) && decide (gcdL 0 [a, b, c] = 1)
  | _ => false
theorem isRt_no {d : D} (h : isPl d = false) : isRt d = false := by
  cases e : isRt d with
  | false => rfl
  | true =>
    unfold isRt at e
    split at e
    · rename_i a b c
      have t : isPl (.tup [.int a, .int b, .int c]) = true := by
        show (_ || (decide (0 < c) && decide (gcdL 0 [a, b, c] = 1))) = true
        rw [e, Bool.or_true]
      rw [t] at h
      cases h
    · cases e
theorem pl_of {d : D} (hd : VOk d) (h : isPl d = true) : ∃ q : P3, d = pD q ∧ Pt 100 q := by
  unfold isPl at h
  split at h
  · rename_i a b c
    simp only [Bool.or_eq_true, Bool.and_eq_true, decide_eq_true_eq] at h
    have s := hd.sz _ rfl
    refine ⟨(a, b, c), rfl, h.imp id (·.1), ?_, s a (by simp), s b (by simp), s c (by simp)⟩
    rcases h with ⟨rfl, rfl, rfl⟩ | h
    · decide
    · exact h.2
  · cases h
theorem rt_pD {q : P3} : isRt (pD q) = (decide (0 < q.2.2) && decide (gcdL 0 [q.1, q.2.1, q.2.2] = 1)) := rfl
theorem rt_of {d : D} (hd : VOk d) (h : isRt d = true) : ∃ q : P3, d = pD q ∧ Pt 100 q ∧ 0 < q.2.2 := by
  unfold isRt at h
  split at h
  · rename_i a b c
    simp only [Bool.and_eq_true, decide_eq_true_eq] at h
    have s := hd.sz _ rfl
    exact ⟨(a, b, c), rfl, ⟨.inr h.1, h.2, s a (by simp), s b (by simp), s c (by simp)⟩, h.1⟩
  · cases h
theorem Pt.isRt {n : Nat} {q : P3} (h : Pt n q) (p : 0 < q.2.2) : isRt (pD q) = true := by
  rw [rt_pD, decide_eq_true p, decide_eq_true h.one]; rfl
inductive Ot where
  | lt
  | er (i : _root_.Fin 3) (g : D)
  | no
def clsN : _root_.Fin 3 → Str | 0 => "InvalidComplex" | 1 => "InvalidNumbers" | 2 => "InvalidRatio"
def wrdN : _root_.Fin 3 → Str | 0 => "complex" | 1 => "numbers" | 2 => "ratio"
def Ot.w : Ot → Str | .lt => "let" | .er i _ => wrdN i | .no => "none"
def Ot.g : Ot → D | .lt => .non | .er _ g => g | .no => .non
/-- what a run comes to -/
def Rn (se : SemX) (as : List SV) (o : Ot) : Prop := ∀ (r : RK) (T : Tk) (k : KD), (o = .lt → ∀ y, k y T) → (∀ i g, o = .er i g → r ⟨clsN i, some ("given", g)⟩ T) → (o = .no → r ⟨"NoPlace", none⟩ T) → se r as T k
def isZ (d : D) : Bool := match d with | .tup [.int a, .int b] => decide (a = 0) && decide (b = 0) | _ => false
def isNt (d : D) : Bool := match d with | .tup [.int a, .int b, .int c] => decide (a = 0) && (decide (b = 0) && decide (c = 1)) | _ => false
def oC (d : D) : Ot := if isW 2 d = true then .lt else .er 0 d
def oCC (d e : D) : Ot := if isW 2 d = true then (if isW 2 e = true then .lt else .er 0 e) else .er 0 d
def oPl (d e : D) : Ot := if isW 2 d = true then (if isW 2 e = true then (if (isZ d && isZ e) = true then .no else .lt) else .er 0 e) else .er 0 d
def oRR (d e : D) : Ot := if isRt d = true then (if isRt e = true then .lt else .er 2 e) else .er 2 d
def oOv (d e : D) : Ot := if isRt d = true then (if isRt e = true then (if isNt e = true then .no else .lt) else .er 2 e) else .er 2 d
theorem w_check_complex_v {r : RK} {T : Tk} {d : D} {k : KD} (hd : VOk d) (h1 : isW 2 d = true → k .non T) (h2 : isW 2 d = false → r ⟨"InvalidComplex", some ("given", d)⟩ T) : se_check_complex r [.val d] T k := by
  rw [ex_check_complex, b_check_complex]
  walk_at "wkn"
  refine w_is_complex_v hd ?_
  walk_at "wkn"
  refine iteB_of (fun e => ?_) (fun e => ?_)
  · walk_at "wkn"; exact h1 e
  · walk_at "wkn"; exact h2 e
theorem w_is_ratio_v {T : Tk} {d : D} {k : KD} (hd : VOk d) (h : k (.bl (isRt d)) T) : sm_is_ratio [.val d] T k := by
  rw [e_is_ratio, b_is_ratio, k_FAR]
  walk_at "wkn"
  refine w_is_place_v hd ?_
  cases w : isPl d with
  | false =>
    rw [isRt_no w] at h
    walk_at "wkn"
    exact h
  | true =>
    obtain ⟨q, rfl, hq⟩ := pl_of hd w
    rw [rt_pD] at h
    walk_at "wkn"
    have e : (!(decide (q.1 = 1) && (decide (q.2.1 = 0) && decide (q.2.2 = 0)))) = (decide (0 < q.2.2) && decide (gcdL 0 [q.1, q.2.1, q.2.2] = 1)) := by
      rw [decide_eq_true hq.one, Bool.and_true]
      rcases hq.ok with ⟨e1, e2, e3⟩ | p
      · rw [decide_eq_true e1, decide_eq_true e2, decide_eq_true e3, decide_eq_false (by omega)]; rfl
      · rw [decide_eq_true p, decide_eq_false (show ¬ q.2.2 = 0 by omega), Bool.and_false, Bool.and_false]; rfl
    rw [← e] at h
    exact h
theorem w_check_ratio_v {r : RK} {T : Tk} {d : D} {k : KD} (hd : VOk d) (h1 : isRt d = true → k .non T) (h2 : isRt d = false → r ⟨"InvalidRatio", some ("given", d)⟩ T) : se_check_ratio r [.val d] T k := by
  rw [ex_check_ratio, b_check_ratio]
  walk_at "wkn"
  refine w_is_ratio_v hd ?_
  walk_at "wkn"
  refine iteB_of (fun e => ?_) (fun e => ?_)
  · walk_at "wkn"; exact h1 e
  · walk_at "wkn"; exact h2 e
theorem rn_cc {r : RK} {T : Tk} {d e : D} {k : KD} (hd : VOk d) (he : VOk e) (h1 : oCC d e = .lt → ∀ y, k y T) (h2 : ∀ i g, oCC d e = .er i g → r ⟨clsN i, some ("given", g)⟩ T) : (isW 2 d = false → r ⟨"InvalidComplex", some ("given", d)⟩ T) ∧ (isW 2 d = true → isW 2 e = false → r ⟨"InvalidComplex", some ("given", e)⟩ T) ∧ (∀ a b : Gi, d = gD a → e = gD b → ∀ y, k y T) :=
  ⟨fun a => h2 0 d (by unfold oCC; rw [if_neg (by rw [a]; decide)]), fun a b => h2 0 e (by unfold oCC; rw [if_pos a, if_neg (by rw [b]; decide)]), fun a b ea eb => h1 (by subst ea eb; rfl)⟩
theorem w_added_v {d e : D} (hd : VOk d) (he : VOk e) : Rn se_added [.val d, .val e] (oCC d e) := by
  intro r T k h1 h2 _
  obtain ⟨g1, g2, g3⟩ := rn_cc hd he h1 h2
  rw [ex_added, b_added]
  walk_at "wkn"
  refine w_check_complex_v hd (fun w1 => ?_) g1
  walk_at "wkn"
  refine w_check_complex_v he (fun w2 => ?_) (g2 w1)
  obtain ⟨a, rfl, ha⟩ := cg_of hd w1
  obtain ⟨b, rfl, hb⟩ := cg_of he w2
  walk_at "wkn"
  exact w_plusG (g3 a b rfl rfl _)
theorem w_subtracted_v {d e : D} (hd : VOk d) (he : VOk e) : Rn se_subtracted [.val d, .val e] (oCC d e) := by
  intro r T k h1 h2 _
  obtain ⟨g1, g2, g3⟩ := rn_cc hd he h1 h2
  rw [ex_subtracted, b_subtracted]
  walk_at "wkn"
  refine w_check_complex_v hd (fun w1 => ?_) g1
  walk_at "wkn"
  refine w_check_complex_v he (fun w2 => ?_) (g2 w1)
  obtain ⟨a, rfl, ha⟩ := cg_of hd w1
  obtain ⟨b, rfl, hb⟩ := cg_of he w2
  walk_at "wkn"
  exact w_minusG (g3 a b rfl rfl _)
theorem w_product_v {d e : D} (hd : VOk d) (he : VOk e) : Rn se_product [.val d, .val e] (oCC d e) := by
  intro r T k h1 h2 _
  obtain ⟨g1, g2, g3⟩ := rn_cc hd he h1 h2
  rw [ex_product, b_product]
  walk_at "wkn"
  refine w_check_complex_v hd (fun w1 => ?_) g1
  walk_at "wkn"
  refine w_check_complex_v he (fun w2 => ?_) (g2 w1)
  obtain ⟨a, rfl, ha⟩ := cg_of hd w1
  obtain ⟨b, rfl, hb⟩ := cg_of he w2
  walk_at "wkn"
  exact w_timesG ha hb (by decide) (by decide) (g3 a b rfl rfl _)
theorem w_quotient_v {d e : D} (hd : VOk d) (he : VOk e) : Rn se_quotient [.val d, .val e] (oCC d e) := by
  intro r T k h1 h2 _
  obtain ⟨g1, g2, g3⟩ := rn_cc hd he h1 h2
  rw [ex_quotient, b_quotient, k_ZERO]
  walk_at "wkn"
  refine w_check_complex_v hd (fun w1 => ?_) g1
  walk_at "wkn"
  refine w_check_complex_v he (fun w2 => ?_) (g2 w1)
  obtain ⟨a, rfl, ha⟩ := cg_of hd w1
  obtain ⟨b, rfl, hb⟩ := cg_of he w2
  walk_at "wkn"
  rw [dec_gi]
  by_cases b0 : b = 0
  · refine iteB_p (decide_eq_true b0) ?_
    walk_at "wkn"
    exact g3 a b rfl rfl _
  · refine iteB_n (decide_eq_false b0) ?_
    walk_at "wkn"
    exact w_divided (ha.mono (by decide)) (hb.mono (by decide)) (Gi.nm_pos b0) (g3 a b rfl rfl _)
theorem w_conjugate_v {d : D} (hd : VOk d) : Rn se_conjugate [.val d] (oC d) := by
  intro r T k h1 h2 _
  have g1 : isW 2 d = false → r ⟨"InvalidComplex", some ("given", d)⟩ T := fun a => h2 0 d (by unfold oC; rw [if_neg (by rw [a]; decide)])
  have g3 : ∀ a : Gi, d = gD a → ∀ y, k y T := fun a ea => h1 (by subst ea; rfl)
  rw [ex_conjugate, b_conjugate]
  walk_at "wkn"
  refine w_check_complex_v hd (fun w1 => ?_) g1
  obtain ⟨a, rfl, ha⟩ := cg_of hd w1
  walk_at "wkn"
  exact w_turnG (g3 a rfl _)
theorem w_norm_v {d : D} (hd : VOk d) : Rn se_norm [.val d] (oC d) := by
  intro r T k h1 h2 _
  have g1 : isW 2 d = false → r ⟨"InvalidComplex", some ("given", d)⟩ T := fun a => h2 0 d (by unfold oC; rw [if_neg (by rw [a]; decide)])
  have g3 : ∀ a : Gi, d = gD a → ∀ y, k y T := fun a ea => h1 (by subst ea; rfl)
  rw [ex_norm, b_norm]
  walk_at "wkn"
  refine w_check_complex_v hd (fun w1 => ?_) g1
  obtain ⟨a, rfl, ha⟩ := cg_of hd w1
  walk_at "wkn"
  exact w_square_size (ha.mono (by decide)) (g3 a rfl _)
theorem w_quarter_form_v {d : D} (hd : VOk d) : Rn se_quarter_form [.val d] (oC d) := by
  intro r T k h1 h2 _
  have g1 : isW 2 d = false → r ⟨"InvalidComplex", some ("given", d)⟩ T := fun a => h2 0 d (by unfold oC; rw [if_neg (by rw [a]; decide)])
  have g3 : ∀ a : Gi, d = gD a → ∀ y, k y T := fun a ea => h1 (by subst ea; rfl)
  rw [ex_quarter_form, b_quarter_form, k_ZERO]
  walk_at "wkn"
  refine w_check_complex_v hd (fun w1 => ?_) g1
  obtain ⟨a, rfl, ha⟩ := cg_of hd w1
  walk_at "wkn"
  rw [dec_gi]
  by_cases a0 : a = 0
  · refine iteB_p (decide_eq_true a0) ?_
    walk_at "wkn"
    exact g3 a rfl _
  · refine iteB_n (decide_eq_false a0) ?_
    walk_at "wkn"
    refine w_unit_for (ha.mono (by decide)) fun p hp => ?_
    walk_at "wkn"
    have cu : Cz 1 p := by rw [hp]; exact cz_cunit (Nat.le_refl 1) _
    exact w_timesG (b := ⟨p.1, p.2⟩) ha cu (by decide) (by decide) (g3 a rfl _)
theorem w_root_of_v {d : D} (hd : VOk d) : Rn se_root_of [.val d] (oC d) := by
  intro r T k h1 h2 _
  have g1 : isW 2 d = false → r ⟨"InvalidComplex", some ("given", d)⟩ T := fun a => h2 0 d (by unfold oC; rw [if_neg (by rw [a]; decide)])
  have g3 : ∀ a : Gi, d = gD a → ∀ y, k y T := fun a ea => h1 (by subst ea; rfl)
  rw [ex_root_of, b_root_of]
  walk_at "wkn"
  refine w_check_complex_v hd (fun w1 => ?_) g1
  obtain ⟨a, rfl, ha⟩ := cg_of hd w1
  walk_at "wkn"
  exact w_root (ha.mono (by decide)) (g3 a rfl _)
theorem w_place_of_v {d e : D} (hd : VOk d) (he : VOk e) : Rn se_place_of [.val d, .val e] (oPl d e) := by
  intro r T k h1 h2 h3
  have g1 : isW 2 d = false → r ⟨"InvalidComplex", some ("given", d)⟩ T := fun a => h2 0 d (by unfold oPl; rw [if_neg (by rw [a]; decide)])
  have g2 : isW 2 d = true → isW 2 e = false → r ⟨"InvalidComplex", some ("given", e)⟩ T := fun a b => h2 0 e (by unfold oPl; rw [if_pos a, if_neg (by rw [b]; decide)])
  rw [ex_place_of, b_place_of, k_ZERO]
  walk_at "wkn"
  refine w_check_complex_v hd (fun w1 => ?_) g1
  walk_at "wkn"
  refine w_check_complex_v he (fun w2 => ?_) (g2 w1)
  obtain ⟨a, rfl, ha⟩ := cg_of hd w1
  obtain ⟨b, rfl, hb⟩ := cg_of he w2
  walk_at "wkn"
  have eo : oPl (gD a) (gD b) = if (decide (a = 0) && decide (b = 0)) = true then .no else .lt := by
    unfold oPl
    rw [if_pos w1, if_pos w2, show isZ (gD a) = (decide (a.re = 0) && decide (a.im = 0)) from rfl, show isZ (gD b) = (decide (b.re = 0) && decide (b.im = 0)) from rfl, dec_gi, dec_gi]
  rw [eo] at h1 h3
  rw [dec_gi, dec_gi]
  refine iteB_of (fun c => ?_) (fun c => ?_)
  · walk_at "wkn"
    exact h3 (if_pos c)
  · walk_at "wkn"
    refine w_quotient_hp (z := (a.re, a.im)) (w := (b.re, b.im)) ha hb (by decide) (fun z => ?_) fun q _ => ?_
    · have e1 : a = 0 := Gi.eq0.mp z.1
      have e2 : b = 0 := Gi.eq0.mp z.2
      rw [e1, e2] at c
      exact absurd c (by decide)
    · exact h1 (if_neg (by rw [c]; decide)) _
theorem rn_rr {r : RK} {T : Tk} {d e : D} {k : KD} (hd : VOk d) (he : VOk e) (h1 : oRR d e = .lt → ∀ y, k y T) (h2 : ∀ i g, oRR d e = .er i g → r ⟨clsN i, some ("given", g)⟩ T) : (isRt d = false → r ⟨"InvalidRatio", some ("given", d)⟩ T) ∧ (isRt d = true → isRt e = false → r ⟨"InvalidRatio", some ("given", e)⟩ T) ∧ (isRt d = true → isRt e = true → ∀ y, k y T) :=
  ⟨fun a => h2 2 d (by unfold oRR; rw [if_neg (by rw [a]; decide)]), fun a b => h2 2 e (by unfold oRR; rw [if_pos a, if_neg (by rw [b]; decide)]), fun a b => h1 (by unfold oRR; rw [if_pos a, if_pos b])⟩
theorem w_sum_of_v {d e : D} (hd : VOk d) (he : VOk e) : Rn se_sum_of [.val d, .val e] (oRR d e) := by
  intro r T k h1 h2 _
  obtain ⟨g1, g2, g3⟩ := rn_rr hd he h1 h2
  rw [ex_sum_of, b_sum_of]
  walk_at "wkn"
  refine w_check_ratio_v hd (fun w1 => ?_) g1
  walk_at "wkn"
  refine w_check_ratio_v he (fun w2 => ?_) (g2 w1)
  have g4 := g3 w1 w2
  obtain ⟨a, rfl, ha, pa⟩ := rt_of hd w1
  obtain ⟨b, rfl, hb, pb⟩ := rt_of he w2
  have sp := ha.s3.mul hb.s3
  have pp := Int.mul_pos pa pb
  clear g1 g2 g3 h1 h2
  walk_at "wkn"
  refine ⟨ha.s1.mulOk hb.s3 (by decide) (by decide), hb.s1.mulOk ha.s3 (by decide) (by decide), ha.s2.mulOk hb.s3 (by decide) (by decide), hb.s2.mulOk ha.s3 (by decide) (by decide), ha.s3.mulOk hb.s3 (by decide) (by decide), ?_⟩
  exact w_lowest (ns := [_, _, a.2.2 * b.2.2]) (by simp) (n := a.2.2 * b.2.2) (by simp) (by omega) (sp.mono (by decide)) (g4 _)
theorem w_difference_of_v {d e : D} (hd : VOk d) (he : VOk e) : Rn se_difference_of [.val d, .val e] (oRR d e) := by
  intro r T k h1 h2 _
  obtain ⟨g1, g2, g3⟩ := rn_rr hd he h1 h2
  rw [ex_difference_of, b_difference_of]
  walk_at "wkn"
  refine w_check_ratio_v hd (fun w1 => ?_) g1
  walk_at "wkn"
  refine w_check_ratio_v he (fun w2 => ?_) (g2 w1)
  have g4 := g3 w1 w2
  obtain ⟨a, rfl, ha, pa⟩ := rt_of hd w1
  obtain ⟨b, rfl, hb, pb⟩ := rt_of he w2
  have sp := ha.s3.mul hb.s3
  have pp := Int.mul_pos pa pb
  clear g1 g2 g3 h1 h2
  walk_at "wkn"
  refine ⟨ha.s1.mulOk hb.s3 (by decide) (by decide), hb.s1.mulOk ha.s3 (by decide) (by decide), ha.s2.mulOk hb.s3 (by decide) (by decide), hb.s2.mulOk ha.s3 (by decide) (by decide), ha.s3.mulOk hb.s3 (by decide) (by decide), ?_⟩
  exact w_lowest (ns := [_, _, a.2.2 * b.2.2]) (by simp) (n := a.2.2 * b.2.2) (by simp) (by omega) (sp.mono (by decide)) (g4 _)
theorem w_product_of_v {d e : D} (hd : VOk d) (he : VOk e) : Rn se_product_of [.val d, .val e] (oRR d e) := by
  intro r T k h1 h2 _
  obtain ⟨g1, g2, g3⟩ := rn_rr hd he h1 h2
  rw [ex_product_of, b_product_of]
  walk_at "wkn"
  refine w_check_ratio_v hd (fun w1 => ?_) g1
  walk_at "wkn"
  refine w_check_ratio_v he (fun w2 => ?_) (g2 w1)
  have g4 := g3 w1 w2
  obtain ⟨a, rfl, ha, pa⟩ := rt_of hd w1
  obtain ⟨b, rfl, hb, pb⟩ := rt_of he w2
  have sp := ha.s3.mul hb.s3
  have pp := Int.mul_pos pa pb
  clear g1 g2 g3 h1 h2
  walk_at "wkn"
  refine w_timesG (a := ⟨a.1, a.2.1⟩) (b := ⟨b.1, b.2.1⟩) ⟨ha.s1, ha.s2⟩ ⟨hb.s1, hb.s2⟩ (by decide) (by decide) ?_
  walk_at "wkn"
  refine ⟨ha.s3.mulOk hb.s3 (by decide) (by decide), ?_⟩
  rw [e_real_place, b_real_place]
  walk_at "wkn"
  exact w_lowest (ns := [_, _, a.2.2 * b.2.2]) (by simp) (n := a.2.2 * b.2.2) (by simp) (by omega) (sp.mono (by decide)) (g4 _)
theorem w_distance_of_v {d e : D} (hd : VOk d) (he : VOk e) : Rn se_distance_of [.val d, .val e] (oRR d e) := by
  intro r T k h1 h2 _
  obtain ⟨g1, g2, g3⟩ := rn_rr hd he h1 h2
  rw [ex_distance_of, b_distance_of]
  walk_at "wkn"
  refine w_check_ratio_v hd (fun w1 => ?_) g1
  walk_at "wkn"
  refine w_check_ratio_v he (fun w2 => ?_) (g2 w1)
  have g4 := g3 w1 w2
  obtain ⟨a, rfl, ha, pa⟩ := rt_of hd w1
  obtain ⟨b, rfl, hb, pb⟩ := rt_of he w2
  have sp := ha.s3.mul hb.s3
  have pp := Int.mul_pos pa pb
  clear g1 g2 g3 h1 h2
  walk_at "wkn"
  rw [e_squared_distance, b_squared_distance]
  walk_at "wkn"
  have s1 := (ha.s1.mul hb.s3).sub (hb.s1.mul ha.s3)
  have s2 := (ha.s2.mul hb.s3).sub (hb.s2.mul ha.s3)
  have z1 := ha.s3.mul ha.s3
  have z2 := z1.mul hb.s3
  have z3 := z2.mul hb.s3
  have p3 : 0 < a.2.2 * a.2.2 * b.2.2 * b.2.2 := Int.mul_pos (Int.mul_pos (Int.mul_pos pa pa) pb) pb
  refine ⟨ha.s1.mulOk hb.s3 (by decide) (by decide), hb.s1.mulOk ha.s3 (by decide) (by decide), ha.s2.mulOk hb.s3 (by decide) (by decide), hb.s2.mulOk ha.s3 (by decide) (by decide), s1.mulOk s1 (by decide) (by decide), s2.mulOk s2 (by decide) (by decide), ha.s3.mulOk ha.s3 (by decide) (by decide), z1.mulOk hb.s3 (by decide) (by decide), z2.mulOk hb.s3 (by decide) (by decide), ?_⟩
  rw [e_fraction, b_fraction]
  walk_at "wkn"
  refine iteB_p (decide_eq_true p3) ?_
  walk_at "wkn"
  exact w_lowest (ns := [_, a.2.2 * a.2.2 * b.2.2 * b.2.2]) (by simp) (n := a.2.2 * a.2.2 * b.2.2 * b.2.2) (by simp) (by omega) (z3.mono (by decide)) (g4 _)
theorem w_quotient_of_v {d e : D} (hd : VOk d) (he : VOk e) : Rn se_quotient_of [.val d, .val e] (oOv d e) := by
  intro r T k h1 h2 h3
  have g1 : isRt d = false → r ⟨"InvalidRatio", some ("given", d)⟩ T := fun a => h2 2 d (by unfold oOv; rw [if_neg (by rw [a]; decide)])
  have g2 : isRt d = true → isRt e = false → r ⟨"InvalidRatio", some ("given", e)⟩ T := fun a b => h2 2 e (by unfold oOv; rw [if_pos a, if_neg (by rw [b]; decide)])
  rw [ex_quotient_of, b_quotient_of, k_NOUGHT]
  walk_at "wkn"
  refine w_check_ratio_v hd (fun w1 => ?_) g1
  walk_at "wkn"
  refine w_check_ratio_v he (fun w2 => ?_) (g2 w1)
  have eo : oOv d e = if isNt e = true then .no else .lt := by
    unfold oOv
    rw [if_pos w1, if_pos w2]
  rw [eo] at h1 h3
  obtain ⟨a, rfl, ha, pa⟩ := rt_of hd w1
  obtain ⟨b, rfl, hb, pb⟩ := rt_of he w2
  rw [show isNt (pD b) = (decide (b.1 = 0) && (decide (b.2.1 = 0) && decide (b.2.2 = 1))) from rfl] at h1 h3
  walk_at "wkn"
  refine iteB_of (fun c => ?_) (fun c => ?_)
  · walk_at "wkn"
    exact h3 (if_pos c)
  · walk_at "wkn"
    refine w_timesG (a := ⟨a.1, a.2.1⟩) (b := ⟨b.2.2, 0⟩) ⟨ha.s1, ha.s2⟩ ⟨hb.s3, sz_0⟩ (by decide) (by decide) ?_
    walk_at "wkn"
    refine w_timesG (a := ⟨b.1, b.2.1⟩) (b := ⟨a.2.2, 0⟩) ⟨hb.s1, hb.s2⟩ ⟨ha.s3, sz_0⟩ (by decide) (by decide) ?_
    walk_at "wkn"
    have c1 : Cz 201 (((⟨a.1, a.2.1⟩ : Gi) * ⟨b.2.2, 0⟩).re, ((⟨a.1, a.2.1⟩ : Gi) * ⟨b.2.2, 0⟩).im) := Cz.mul (z := (a.1, a.2.1)) (w := (b.2.2, 0)) (m := 100) (n := 100) ⟨ha.s1, ha.s2⟩ ⟨hb.s3, sz_0⟩
    have c2 : Cz 201 (((⟨b.1, b.2.1⟩ : Gi) * ⟨a.2.2, 0⟩).re, ((⟨b.1, b.2.1⟩ : Gi) * ⟨a.2.2, 0⟩).im) := Cz.mul (z := (b.1, b.2.1)) (w := (a.2.2, 0)) (m := 100) (n := 100) ⟨hb.s1, hb.s2⟩ ⟨ha.s3, sz_0⟩
    refine w_quotient_hp (z := (((⟨a.1, a.2.1⟩ : Gi) * ⟨b.2.2, 0⟩).re, ((⟨a.1, a.2.1⟩ : Gi) * ⟨b.2.2, 0⟩).im)) (w := (((⟨b.1, b.2.1⟩ : Gi) * ⟨a.2.2, 0⟩).re, ((⟨b.1, b.2.1⟩ : Gi) * ⟨a.2.2, 0⟩).im)) c1 c2 (by decide) (fun z => ?_) fun q _ => ?_
    · have y0 : (⟨b.1, b.2.1⟩ : Gi) * ⟨a.2.2, 0⟩ = 0 := Gi.eq0.mp z.2
      rcases Gi.mul_zero' y0 with y0 | y0
      · have e1 : b.1 = 0 := congrArg Gi.re y0
        have e2 : b.2.1 = 0 := congrArg Gi.im y0
        have e3 : b.2.2 ∣ gcdL 0 [b.1, b.2.1, b.2.2] := dvd_gcdL _ 0 _ (Int.dvd_zero _) fun n hn => by
          simp only [List.mem_cons, List.not_mem_nil, or_false] at hn
          rcases hn with rfl | rfl | rfl
          · rw [e1]; exact Int.dvd_zero _
          · rw [e2]; exact Int.dvd_zero _
          · exact Int.dvd_refl _
        rw [hb.one] at e3
        have := Int.le_of_dvd (by decide) e3
        rw [decide_eq_true e1, decide_eq_true e2, decide_eq_true (show b.2.2 = 1 by omega)] at c
        exact absurd c (by decide)
      · have : a.2.2 = 0 := congrArg Gi.re y0
        omega
    · exact h1 (if_neg (by rw [c]; decide)) _

theorem gD_isW (g : Gi) : isW 2 (gD g) = true := rfl
theorem gD_vok {g : Gi} (h : Cz 100 (g.re, g.im)) : VOk (gD g) := by
  refine ⟨trivial, fun xs e => ?_, fun xs e x hx => ?_, fun xs e i hi => ?_⟩
  · cases e; show 2 ≤ 1000; omega
  · cases e
    simp only [List.mem_cons, List.not_mem_nil, or_false] at hx
    rcases hx with rfl | rfl <;> simp only [okN]
  · cases e
    simp only [List.mem_cons, List.not_mem_nil, or_false, D.int.injEq] at hi
    rcases hi with rfl | rfl
    · exact h.1
    · exact h.2
theorem h_tryA {mt : Str → Option Bool} {i : Nat} {b : RX → dS} {s : ExD → Addr → Option Addr → dS} {K : dEnds} {ρ : En} {T : Tk} : sTryA mt i b s K ρ T = b (fun e ρ' T' => mt e.nm = some true ∧ ∀ a dd, s e a (e.arg.map fun _ => dd) (outA i K) (ρ'.set i (some (.exc a (e.arg.map fun x => (dd, x.1, x.2))))) T') K ρ T := rfl
/-- numbers that are refused -/
def Bad (d : D) : Prop := ∀ (r : RK) (T : Tk) (k : KD), r ⟨"InvalidNumbers", some ("given", d)⟩ T → se_common_divisor r [.val d] T k
theorem cdx_lc {A0 x1 : Option SV} {K : List D → Tk → Prop} {T : Tk} : ∀ (xs acc : List D), (∀ x ∈ xs, VOk x) → K (acc ++ xs.filter fun y => !isW 2 y) T → lcK [A0, x1] (cN 1) (dNot (dTst (dCall 1 sm_is_complex (aCons (dVar 1) (aNil))))) (dVar 1) K xs acc T
  | [], acc, _, h => by rw [List.filter_nil, List.append_nil] at h; exact h
  | y :: ys, acc, hy, h => by
    have ih := cdx_lc (A0 := A0) (x1 := x1) (K := K) (T := T) ys
    rw [lcK_cons]
    walk_at "wkn"
    refine w_is_complex_v (hy y List.mem_cons_self) ?_
    cases q : isW 2 y with
    | true =>
      walk_at "wkn"
      rw [List.filter_cons, if_neg (by rw [q]; decide)] at h
      exact ih acc (fun z hz => hy z (List.mem_cons_of_mem _ hz)) h
    | false =>
      walk_at "wkn"
      rw [List.filter_cons, if_pos (by rw [q]; rfl)] at h
      exact ih (acc ++ [y]) (fun z hz => hy z (List.mem_cons_of_mem _ hz)) (by rw [List.append_assoc]; exact h)
theorem bad_no {d : D} (pd : Pln d) (n : ∀ xs, d ≠ .tup xs) : Bad d := by
  intro r T k h
  rw [ex_common_divisor, b_common_divisor, k_ZERO, k_MOST_NUMBERS]
  cases d with
  | obj _ _ _ => exact pd.elim
  | ref _ => exact pd.elim
  | bl b => walk_at "wkn"; exact h
  | int i => walk_at "wkn"; exact h
  | non => walk_at "wkn"; exact h
  | str s => walk_at "wkn"; exact h
  | lst s => walk_at "wkn"; exact h
  | scr s => walk_at "wkn"; exact h
  | dct s t => walk_at "wkn"; exact h
  | tup xs => exact absurd rfl (n xs)
theorem bad_len {xs : List D} (l : xs.length < 1 ∨ 8 < xs.length) : Bad (.tup xs) := by
  intro r T k h
  rw [ex_common_divisor, b_common_divisor, k_ZERO, k_MOST_NUMBERS]
  walk_at "wkn"
  refine iteB_n ?_ ?_
  · rcases l with l | l
    · rw [decide_eq_false (by omega), Bool.false_and]
    · rw [decide_eq_false (show ¬ (xs.length : Int) ≤ 8 by omega), Bool.and_false]
  · walk_at "wkn"
    exact h
theorem bad_in {xs : List D} (l1 : 1 ≤ xs.length) (l8 : xs.length ≤ 8) (hv : ∀ x ∈ xs, VOk x) (hx : ∃ x ∈ xs, isW 2 x = false) : Bad (.tup xs) := by
  intro r T k h
  rw [ex_common_divisor, b_common_divisor, k_ZERO, k_MOST_NUMBERS]
  walk_at "wkn"
  refine iteB_p (by rw [decide_eq_true (by omega), decide_eq_true (by omega)]; rfl) ?_
  walk_at "wkn"
  refine ⟨by omega, ?_⟩
  refine cdx_lc xs [] hv ?_
  rw [List.nil_append]
  have e : (xs.filter fun y => !isW 2 y).isEmpty = false := by
    obtain ⟨x, hm, q⟩ := hx
    have : x ∈ xs.filter fun y => !isW 2 y := List.mem_filter.mpr ⟨hm, by rw [q]; rfl⟩
    cases c : xs.filter fun y => !isW 2 y with
    | nil => rw [c] at this; cases this
    | cons a b => rfl
  walk_at "wkn"
  rw [e]
  walk_at "wkn"
  exact h
theorem cdx_ok {r : RK} {T : Tk} {ns : List Gi} {k : KD} (l1 : 1 ≤ ns.length) (l8 : ns.length ≤ 8) (hs : ∀ a ∈ ns, Cz 100 (a.re, a.im)) (hz : (∀ a ∈ ns, a = 0) → r ⟨"InvalidNumbers", some ("given", .tup (ns.map gD))⟩ T)
    (h : (∃ a ∈ ns, a ≠ 0) → ∀ g, GL g ns → Nz 202 g → se_quarter_form r [.val (gD g)] T k) : se_common_divisor r [.val (.tup (ns.map gD))] T k := by
  rw [ex_common_divisor, b_common_divisor, k_ZERO, k_MOST_NUMBERS]
  walk_at "wkn"
  refine iteB_p (by rw [List.length_map, decide_eq_true (by omega), decide_eq_true (by omega)]; rfl) ?_
  walk_at "wkn"
  refine ⟨by rw [List.length_map]; omega, ?_⟩
  refine cdx_lc (ns.map gD) [] (fun x hx => by
    obtain ⟨a, ha, rfl⟩ := List.mem_map.mp hx
    exact gD_vok (hs a ha)) ?_
  have e : (ns.map gD).filter (fun y => !isW 2 y) = [] := List.filter_eq_nil_iff.mpr fun x hx => by
    obtain ⟨a, ha, rfl⟩ := List.mem_map.mp hx
    rw [gD_isW]
    decide
  rw [e]
  walk_at "wkn"
  refine ⟨⟨_, tups_gD ns, by rw [List.length_map]; omega⟩, ⟨_, rfl⟩, ?_⟩
  by_cases c : ∃ a ∈ ns, a ≠ 0
  · rw [setEq_gD c]
    walk_at "wkn"
    refine w_divisor_of_allL (n := 202) l8 (fun a ha => nz_of (hs a ha).1 (hs a ha).2) (by decide) fun g hg ng => ?_
    walk_at "wkn"
    exact h c g hg ng
  · have al : ∀ a ∈ ns, a = 0 := fun a ha => Classical.byContradiction fun z => c ⟨a, ha, z⟩
    have e2 : setEqD (.tup (ns.map gD)) (.tup [.int 0, .int 0]) = true := by
      show setEq2 (tups? (ns.map gD)) (nums? [.int 0, .int 0]) = true
      rw [tups_gD]
      refine decide_eq_true ⟨fun z => ?_, fun m hm => ?_⟩
      · have := congrArg List.length z
        rw [List.length_map] at this
        simp at this
        rw [this] at l1
        simp at l1
      · obtain ⟨a, ha, rfl⟩ := List.mem_map.mp hm
        rw [al a ha]
        rfl
    rw [e2]
    walk_at "wkn"
    exact hz al
theorem rn_added {d e : D} (hd : VOk d) (he : VOk e) : Rn se__law_run [.val (.str "added"), .val d, .val e] (oCC d e) := by
  intro r T k h1 h2 h3
  rw [ex__law_run, b__law_run]
  walk_at "wkn"
  repeat (refine iteB_n (by decide) ?_; walk_at "wkn")
  try (refine iteB_p (by decide) ?_; walk_at "wkn")
  exact w_added_v hd he _ _ _ h1 h2 h3
theorem rn_subtracted {d e : D} (hd : VOk d) (he : VOk e) : Rn se__law_run [.val (.str "subtracted"), .val d, .val e] (oCC d e) := by
  intro r T k h1 h2 h3
  rw [ex__law_run, b__law_run]
  walk_at "wkn"
  repeat (refine iteB_n (by decide) ?_; walk_at "wkn")
  try (refine iteB_p (by decide) ?_; walk_at "wkn")
  exact w_subtracted_v hd he _ _ _ h1 h2 h3
theorem rn_product {d e : D} (hd : VOk d) (he : VOk e) : Rn se__law_run [.val (.str "product"), .val d, .val e] (oCC d e) := by
  intro r T k h1 h2 h3
  rw [ex__law_run, b__law_run]
  walk_at "wkn"
  repeat (refine iteB_n (by decide) ?_; walk_at "wkn")
  try (refine iteB_p (by decide) ?_; walk_at "wkn")
  exact w_product_v hd he _ _ _ h1 h2 h3
theorem rn_quotient {d e : D} (hd : VOk d) (he : VOk e) : Rn se__law_run [.val (.str "quotient"), .val d, .val e] (oCC d e) := by
  intro r T k h1 h2 h3
  rw [ex__law_run, b__law_run]
  walk_at "wkn"
  repeat (refine iteB_n (by decide) ?_; walk_at "wkn")
  try (refine iteB_p (by decide) ?_; walk_at "wkn")
  exact w_quotient_v hd he _ _ _ h1 h2 h3
theorem rn_conjugate {d e : D} (hd : VOk d) : Rn se__law_run [.val (.str "conjugate"), .val d, .val e] (oC d) := by
  intro r T k h1 h2 h3
  rw [ex__law_run, b__law_run]
  walk_at "wkn"
  repeat (refine iteB_n (by decide) ?_; walk_at "wkn")
  try (refine iteB_p (by decide) ?_; walk_at "wkn")
  exact w_conjugate_v hd _ _ _ h1 h2 h3
theorem rn_norm {d e : D} (hd : VOk d) : Rn se__law_run [.val (.str "norm"), .val d, .val e] (oC d) := by
  intro r T k h1 h2 h3
  rw [ex__law_run, b__law_run]
  walk_at "wkn"
  repeat (refine iteB_n (by decide) ?_; walk_at "wkn")
  try (refine iteB_p (by decide) ?_; walk_at "wkn")
  exact w_norm_v hd _ _ _ h1 h2 h3
theorem rn_quarter {d e : D} (hd : VOk d) : Rn se__law_run [.val (.str "quarter"), .val d, .val e] (oC d) := by
  intro r T k h1 h2 h3
  rw [ex__law_run, b__law_run]
  walk_at "wkn"
  repeat (refine iteB_n (by decide) ?_; walk_at "wkn")
  try (refine iteB_p (by decide) ?_; walk_at "wkn")
  exact w_quarter_form_v hd _ _ _ h1 h2 h3
theorem rn_root {d e : D} (hd : VOk d) : Rn se__law_run [.val (.str "root"), .val d, .val e] (oC d) := by
  intro r T k h1 h2 h3
  rw [ex__law_run, b__law_run]
  walk_at "wkn"
  repeat (refine iteB_n (by decide) ?_; walk_at "wkn")
  try (refine iteB_p (by decide) ?_; walk_at "wkn")
  exact w_root_of_v hd _ _ _ h1 h2 h3
theorem rn_place {d e : D} (hd : VOk d) (he : VOk e) : Rn se__law_run [.val (.str "place"), .val d, .val e] (oPl d e) := by
  intro r T k h1 h2 h3
  rw [ex__law_run, b__law_run]
  walk_at "wkn"
  repeat (refine iteB_n (by decide) ?_; walk_at "wkn")
  try (refine iteB_p (by decide) ?_; walk_at "wkn")
  rw [ex__law_run_more, b__law_run_more]
  walk_at "wkn"
  repeat (refine iteB_n (by decide) ?_; walk_at "wkn")
  try (refine iteB_p (by decide) ?_; walk_at "wkn")
  exact w_place_of_v hd he _ _ _ h1 h2 h3
theorem rn_sum {d e : D} (hd : VOk d) (he : VOk e) : Rn se__law_run [.val (.str "sum"), .val d, .val e] (oRR d e) := by
  intro r T k h1 h2 h3
  rw [ex__law_run, b__law_run]
  walk_at "wkn"
  repeat (refine iteB_n (by decide) ?_; walk_at "wkn")
  try (refine iteB_p (by decide) ?_; walk_at "wkn")
  rw [ex__law_run_more, b__law_run_more]
  walk_at "wkn"
  repeat (refine iteB_n (by decide) ?_; walk_at "wkn")
  try (refine iteB_p (by decide) ?_; walk_at "wkn")
  exact w_sum_of_v hd he _ _ _ h1 h2 h3
theorem rn_difference {d e : D} (hd : VOk d) (he : VOk e) : Rn se__law_run [.val (.str "difference"), .val d, .val e] (oRR d e) := by
  intro r T k h1 h2 h3
  rw [ex__law_run, b__law_run]
  walk_at "wkn"
  repeat (refine iteB_n (by decide) ?_; walk_at "wkn")
  try (refine iteB_p (by decide) ?_; walk_at "wkn")
  rw [ex__law_run_more, b__law_run_more]
  walk_at "wkn"
  repeat (refine iteB_n (by decide) ?_; walk_at "wkn")
  try (refine iteB_p (by decide) ?_; walk_at "wkn")
  exact w_difference_of_v hd he _ _ _ h1 h2 h3
theorem rn_times {d e : D} (hd : VOk d) (he : VOk e) : Rn se__law_run [.val (.str "times"), .val d, .val e] (oRR d e) := by
  intro r T k h1 h2 h3
  rw [ex__law_run, b__law_run]
  walk_at "wkn"
  repeat (refine iteB_n (by decide) ?_; walk_at "wkn")
  try (refine iteB_p (by decide) ?_; walk_at "wkn")
  rw [ex__law_run_more, b__law_run_more]
  walk_at "wkn"
  repeat (refine iteB_n (by decide) ?_; walk_at "wkn")
  try (refine iteB_p (by decide) ?_; walk_at "wkn")
  exact w_product_of_v hd he _ _ _ h1 h2 h3
theorem rn_distance {d e : D} (hd : VOk d) (he : VOk e) : Rn se__law_run [.val (.str "distance"), .val d, .val e] (oRR d e) := by
  intro r T k h1 h2 h3
  rw [ex__law_run, b__law_run]
  walk_at "wkn"
  repeat (refine iteB_n (by decide) ?_; walk_at "wkn")
  try (refine iteB_p (by decide) ?_; walk_at "wkn")
  rw [ex__law_run_more, b__law_run_more]
  walk_at "wkn"
  repeat (refine iteB_n (by decide) ?_; walk_at "wkn")
  try (refine iteB_p (by decide) ?_; walk_at "wkn")
  exact w_distance_of_v hd he _ _ _ h1 h2 h3
theorem rn_over {d e : D} (hd : VOk d) (he : VOk e) : Rn se__law_run [.val (.str "over"), .val d, .val e] (oOv d e) := by
  intro r T k h1 h2 h3
  rw [ex__law_run, b__law_run]
  walk_at "wkn"
  repeat (refine iteB_n (by decide) ?_; walk_at "wkn")
  try (refine iteB_p (by decide) ?_; walk_at "wkn")
  rw [ex__law_run_more, b__law_run_more]
  walk_at "wkn"
  repeat (refine iteB_n (by decide) ?_; walk_at "wkn")
  try (refine iteB_p (by decide) ?_; walk_at "wkn")
  exact w_quotient_of_v hd he _ _ _ h1 h2 h3
theorem rn_common {d e : D} (hd : Bad d) : Rn se__law_run [.val (.str "common"), .val d, .val e] (.er 1 d) := by
  intro r T k h1 h2 h3
  rw [ex__law_run, b__law_run]
  walk_at "wkn"
  repeat (refine iteB_n (by decide) ?_; walk_at "wkn")
  try (refine iteB_p (by decide) ?_; walk_at "wkn")
  exact hd _ _ _ (h2 1 d rfl)
theorem rn_common_let {e : D} : Rn se__law_run [.val (.str "common"), .val (.tup [gD 0, gD 1]), .val e] .lt := by
  intro r T k h1 h2 h3
  rw [ex__law_run, b__law_run]
  walk_at "wkn"
  repeat (refine iteB_n (by decide) ?_; walk_at "wkn")
  try (refine iteB_p (by decide) ?_; walk_at "wkn")
  rw [show (D.tup [gD 0, gD 1]) = .tup ([0, 1].map gD) from rfl]
  have c0 : ∀ a ∈ ([0, 1] : List Gi), Cz 1 (a.re, a.im) := fun a ha => by
    simp only [List.mem_cons, List.not_mem_nil, or_false] at ha
    rcases ha with rfl | rfl
    · exact ⟨by unfold Sz; decide, by unfold Sz; decide⟩
    · exact ⟨by unfold Sz; decide, by unfold Sz; decide⟩
  refine cdx_ok (ns := [0, 1]) (by decide) (by decide) (fun a ha => (c0 a ha).mono (by decide)) (fun al => absurd (al 1 (by simp)) (by decide)) fun _ g hg _ => ?_
  obtain ⟨x, hx⟩ := hg.d 1 (by simp)
  have gn : g.nm = 1 := by
    have := unit_nm (s := g) (t := x) (by rw [gmul_comm]; exact hx.symm)
    exact this
  have cg : Cz 1 (g.re, g.im) := by
    rcases unit_4 gn with h | h | h | h <;> (rw [h.1, h.2]; exact ⟨by unfold Sz; decide, by unfold Sz; decide⟩)
  exact w_quarter_form_v (gD_vok (cg.mono (by decide))) _ _ _ (fun _ => h1 rfl) (fun i g e => by cases e) (fun e => by cases e)
theorem w__law_met {T : Tk} {way : Str} {d1 d2 : D} {o : Ot} {k : KD} (run : Rn se__law_run [.val (.str way), .val d1, .val d2] o) (h : k (.lst [.str o.w, o.g]) T) : sm__law_met [.val (.str way), .val d1, .val d2] T k := by
  rw [e__law_met, b__law_met]
  walk_at "wkn"
  rw [h_tryA]
  walk_at "wkn"
  refine run _ _ _ (fun e y => ?_) (fun i g e => ?_) (fun e => ?_)
  · subst e
    walk_at "wkn"
    exact h
  · subst e
    match i, h with
    | 0, h =>
      refine ⟨(by decide +kernel : mt_ArmError (clsN 0) = some true), fun a dd => ?_⟩
      have h : k (.lst [.str "complex", g]) T := h
      dsimp only [clsN]
      iterate 9 (try simp only [is_InvalidComplex_InvalidComplex, is_InvalidNumbers_InvalidComplex, is_InvalidRatio_InvalidComplex, is_NoPlace_InvalidComplex, is_InvalidPlace_InvalidComplex, is_InvalidNumber_InvalidComplex, is_ValueError_InvalidComplex, gv_given_InvalidComplex]
                 walk_at "wk")
      exact h
    | 1, h =>
      refine ⟨(by decide +kernel : mt_ArmError (clsN 1) = some true), fun a dd => ?_⟩
      have h : k (.lst [.str "numbers", g]) T := h
      dsimp only [clsN]
      iterate 9 (try simp only [is_InvalidComplex_InvalidNumbers, is_InvalidNumbers_InvalidNumbers, is_InvalidRatio_InvalidNumbers, is_NoPlace_InvalidNumbers, is_InvalidPlace_InvalidNumbers, is_InvalidNumber_InvalidNumbers, is_ValueError_InvalidNumbers, gv_given_InvalidNumbers]
                 walk_at "wk")
      exact h
    | 2, h =>
      refine ⟨(by decide +kernel : mt_ArmError (clsN 2) = some true), fun a dd => ?_⟩
      have h : k (.lst [.str "ratio", g]) T := h
      dsimp only [clsN]
      iterate 9 (try simp only [is_InvalidComplex_InvalidRatio, is_InvalidNumbers_InvalidRatio, is_InvalidRatio_InvalidRatio, is_NoPlace_InvalidRatio, is_InvalidPlace_InvalidRatio, is_InvalidNumber_InvalidRatio, is_ValueError_InvalidRatio, gv_given_InvalidRatio]
                 walk_at "wk")
      exact h
  · subst e
    refine ⟨(by decide +kernel : mt_ArmError "NoPlace" = some true), fun a dd => ?_⟩
    have h : k (.lst [.str "none", .non]) T := h
    simp only [Option.map_none]
    iterate 9 (try simp only [is_InvalidComplex_NoPlace, is_InvalidNumbers_NoPlace, is_InvalidRatio_NoPlace, is_NoPlace_NoPlace, is_InvalidPlace_NoPlace, is_InvalidNumber_NoPlace, is_ValueError_NoPlace]
               walk_at "wk")
    exact h

/-- a thing to be shown, with its size -/
structure Gz (b p : Nat) (d : D) : Prop where
  l : d.liteE
  b : d.py.bulk ≤ b
  p : d.py.depth ≤ p
abbrev Gs (d : D) : Prop := Gz 90 3 d
abbrev G5 (d : D) : Prop := Gz 1000 5 d
theorem Gz.mono {b p b' p' : Nat} {d : D} (h : Gz b p d) (hb : b ≤ b') (hp : p ≤ p') : Gz b' p' d := ⟨h.l, Nat.le_trans h.b hb, Nat.le_trans h.p hp⟩
theorem gz_all {b p : Nat} : ∀ {xs : List D} {n : Nat}, xs.length ≤ n → (∀ x ∈ xs, Gz b p x) → D.liteEL xs ∧ PyData.bulkAll (D.pyL xs) ≤ n * (b + 1) ∧ PyData.depthAll (D.pyL xs) ≤ p
  | [], n, _, _ => ⟨by simp only [D.liteEL], by simp [D.pyL, PyData.bulkAll], by simp [D.pyL, PyData.depthAll]⟩
  | x :: xs, n, hl, h => by
    have e := h x List.mem_cons_self
    rw [List.length_cons] at hl
    obtain ⟨h1, h2, h3⟩ := gz_all (n := n - 1) (by omega) fun y hy => h y (List.mem_cons_of_mem _ hy)
    have a := e.b
    have b' := e.p
    refine ⟨by simp only [D.liteEL]; exact ⟨e.l, h1⟩, ?_, ?_⟩
    · simp only [D.pyL, PyData.bulkAll]
      have e2 : n * (b + 1) = (n - 1) * (b + 1) + (b + 1) := by
        have : n = (n - 1) + 1 := by omega
        rw [this, Nat.add_mul, Nat.one_mul, Nat.add_sub_cancel]
      omega
    · simp only [D.pyL, PyData.depthAll]
      omega
theorem gz_tup {b p n : Nat} {xs : List D} (hl : xs.length ≤ n) (h : ∀ x ∈ xs, Gz b p x) : Gz (n * (b + 1)) (p + 1) (.tup xs) := by
  obtain ⟨h1, h2, h3⟩ := gz_all hl h
  exact ⟨by simpa only [D.liteE] using h1, h2, Nat.succ_le_succ h3⟩
theorem gz_lst {b p n : Nat} {xs : List D} (hl : xs.length ≤ n) (h : ∀ x ∈ xs, Gz b p x) : Gz (n * (b + 1)) (p + 1) (.lst xs) := by
  obtain ⟨h1, h2, h3⟩ := gz_all hl h
  exact ⟨by simpa only [D.liteE] using h1, h2, Nat.succ_le_succ h3⟩
theorem ge_shows {d : D} {w : Str} (h : G5 d) (hw : (D.str w).lite) (hb : (D.str w).py.bulk ≤ 1000) : ReprG [.str w, d] := by
  have e1 : (D.lst [.str w, d]).py.bulk = (D.str w).py.bulk + 1 + (d.py.bulk + 1 + 0) := by simp only [D.py, D.pyL, PyData.bulk, PyData.bulkAll]
  have e2 : (D.lst [.str w, d]).py.depth = max 0 (max d.py.depth 0) + 1 := by simp only [D.py, D.pyL, PyData.depth, PyData.depthAll]
  have := h.b
  have := h.p
  exact ⟨by simp only [D.liteEL]; exact ⟨lite_E hw, h.l, trivial⟩, by omega, by omega⟩
theorem gi_int {i : Int} (h : Sz 100 i) : Gz 0 0 (.int i) := ⟨lite_E (h.lite (by decide)), Nat.le_refl 0, Nat.le_refl 0⟩
theorem gs_gD {g : Gi} (h : Cz 100 (g.re, g.im)) : Gz 2 1 (gD g) := gz_tup (n := 2) (b := 0) (p := 0) (Nat.le_refl 2) fun x hx => by
  simp only [List.mem_cons, List.not_mem_nil, or_false] at hx
  rcases hx with rfl | rfl
  · exact gi_int h.1
  · exact gi_int h.2
theorem gs_pD {q : P3} {n : Nat} (h : Pt n q) (hn : n ≤ 100) : Gz 3 1 (pD q) := gz_tup (n := 3) (b := 0) (p := 0) (Nat.le_refl 3) fun x hx => by
  simp only [List.mem_cons, List.not_mem_nil, or_false] at hx
  rcases hx with rfl | rfl | rfl
  · exact gi_int (h.s1.mono hn)
  · exact gi_int (h.s2.mono hn)
  · exact gi_int (h.s3.mono hn)
theorem vok_tup {xs : List D} (l : xs.length ≤ 1000) (h : ∀ x ∈ xs, okN 3 x ∧ ∀ i, x = .int i → Sz 100 i) : VOk (.tup xs) :=
  ⟨trivial, fun ys e => by cases e; exact l, fun ys e x hx => by cases e; exact (h x hx).1, fun ys e i hi => by cases e; exact (h _ hi).2 i rfl⟩
theorem vok_no {d : D} (h : Pln d) (n : ∀ xs, d ≠ .tup xs) : VOk d := ⟨h, fun xs e => absurd e (n xs), fun xs e => absurd e (n xs), fun xs e => absurd e (n xs)⟩
theorem vok_pD {q : P3} {n : Nat} (h : Pt n q) (hn : n ≤ 100) : VOk (pD q) := vok_tup (by show 3 ≤ 1000; omega) fun x hx => by
  simp only [List.mem_cons, List.not_mem_nil, or_false] at hx
  rcases hx with rfl | rfl | rfl
  · exact ⟨by simp only [okN], fun i e => by cases e; exact h.s1.mono hn⟩
  · exact ⟨by simp only [okN], fun i e => by cases e; exact h.s2.mono hn⟩
  · exact ⟨by simp only [okN], fun i e => by cases e; exact h.s3.mono hn⟩
theorem szl {i : Int} (h : i.natAbs < 128) : Sz 100 i := Nat.lt_trans h (by decide)
/-- a small part of a thing -/
structure Pa (x : D) : Prop where
  ok : okN 3 x
  sz : ∀ i, x = .int i → Sz 100 i
  v : VOk x
  g : Gz 20 2 x
theorem pa_int {i : Int} (h : i.natAbs < 128) : Pa (.int i) := ⟨by simp only [okN], (fun j e => by cases e; exact szl h), vok_no trivial (fun _ e => nomatch e), (gi_int (szl h)).mono (by decide) (by decide)⟩
theorem pa_bl {b : Bool} : Pa (.bl b) := ⟨by simp only [okN], (fun _ e => nomatch e), vok_no trivial (fun _ e => nomatch e), ⟨by simp only [D.liteE], Nat.zero_le _, Nat.zero_le _⟩⟩
theorem pa_non : Pa .non := ⟨by simp only [okN], (fun _ e => nomatch e), vok_no trivial (fun _ e => nomatch e), ⟨by simp only [D.liteE], Nat.zero_le _, Nat.zero_le _⟩⟩
theorem pa_1s : Pa (.str "1") := ⟨by simp only [okN]; decide +kernel, (fun _ e => nomatch e), vok_no trivial (fun _ e => nomatch e), ⟨by simp only [D.liteE]; decide +kernel, by decide +kernel, Nat.zero_le _⟩⟩
theorem pa_12 : Pa (.tup [.int 1, .int 2]) := ⟨by simp [okN, okL], (fun _ e => nomatch e), gD_vok (g := ⟨1, 2⟩) ⟨szl (by decide), szl (by decide)⟩, (gs_gD (g := ⟨1, 2⟩) ⟨szl (by decide), szl (by decide)⟩).mono (by decide) (by decide)⟩
theorem cut_toN {xs : List D} (k : Nat) : cutD xs none (some (k : Int)) = xs.take k := by
  unfold cutD
  rw [HT.sIx_nat, HT.sIx_none, List.drop_zero, Nat.sub_zero]
  by_cases h : k ≤ xs.length
  · rw [Nat.min_eq_left h]
  · rw [Nat.min_eq_right (by omega), List.take_length, List.take_of_length_le (by omega)]
theorem cut_fromN {xs : List D} (k : Nat) : cutD xs (some (k : Int)) none = xs.drop k := by
  unfold cutD
  rw [HT.sIx_nat, HT.sIx_none]
  by_cases h : k ≤ xs.length
  · rw [Nat.min_eq_left h, List.take_of_length_le (by simp)]
  · rw [Nat.min_eq_right (by omega), Nat.sub_self, List.take_zero, List.drop_eq_nil_of_le (by omega)]
/-- what the law calls odd -/
structure Od (d : D) : Prop where
  v : VOk d
  g : Gs d
  c : isW 2 d = false
  r : isRt d = false
  b : Bad d
theorem od_no {d : D} (h : Pln d) (n : ∀ xs, d ≠ .tup xs) (g : Gs d) (c : isW 2 d = false) (r : isRt d = false) : Od d := ⟨vok_no h n, g, c, r, bad_no h n⟩
theorem od_tup {xs : List D} (l : xs.length ≤ 4) (h : ∀ x ∈ xs, Pa x) (c : isW 2 (.tup xs) = false) (r : isRt (.tup xs) = false) (b : xs = [] ∨ ∃ x ∈ xs, isW 2 x = false) : Od (.tup xs) := by
  refine ⟨vok_tup (by omega) fun x hx => ⟨(h x hx).ok, (h x hx).sz⟩, (gz_tup l fun x hx => (h x hx).g).mono (by decide) (by decide), c, r, ?_⟩
  rcases b with rfl | b
  · exact bad_len (.inl Nat.zero_lt_one)
  · refine bad_in ?_ (by omega) (fun x hx => (h x hx).v) b
    obtain ⟨x, hx, _⟩ := b
    exact List.length_pos_of_mem hx
theorem od_t3 {a b c : Int} (ha : a.natAbs < 128) (hb : b.natAbs < 128) (hc : c.natAbs < 128) (r : isRt (.tup [.int a, .int b, .int c]) = false) : Od (.tup [.int a, .int b, .int c]) := od_tup (by show 3 ≤ 4; omega) (fun x hx => by
  simp only [List.mem_cons, List.not_mem_nil, or_false] at hx
  rcases hx with rfl | rfl | rfl
  · exact pa_int ha
  · exact pa_int hb
  · exact pa_int hc) rfl r (.inr ⟨_, List.mem_cons_self, rfl⟩)
theorem od_t2 {x y : D} (hx : Pa x) (hy : Pa y) (c : isW 2 (.tup [x, y]) = false) (r : isRt (.tup [x, y]) = false) (b : isW 2 x = false ∨ isW 2 y = false) : Od (.tup [x, y]) := od_tup (by show 2 ≤ 4; omega) (fun z hz => by
  simp only [List.mem_cons, List.not_mem_nil, or_false] at hz
  rcases hz with rfl | rfl
  · exact hx
  · exact hy) c r (.inr (b.elim (fun b => ⟨x, by simp, b⟩) fun b => ⟨y, by simp, b⟩))
theorem w__law_odd {T : Tk} {k : KD} (hT : TkOk T) (h : ∀ d T', Od d → TkOk T' → k d T') : sm__law_odd [.tank] T k := by
  rw [e__law_odd, b__law_odd]
  walk_at "wkn"
  refine w__law_pick hT (by simp) (by simp) fun y T1 hy hT1 => ?_
  simp only [List.mem_cons, List.not_mem_nil, or_false] at hy
  refine h y T1 ?_ hT1
  rcases hy with rfl | rfl | rfl | rfl | rfl | rfl | rfl | rfl | rfl | rfl | rfl | rfl | rfl | rfl | rfl | rfl | rfl | rfl | rfl | rfl | rfl | rfl
  · exact od_no trivial (fun _ e => nomatch e) (pa_non.g.mono (by decide) (by decide)) rfl rfl
  · exact od_no trivial (fun _ e => nomatch e) ((pa_int (by decide)).g.mono (by decide) (by decide)) rfl rfl
  · exact od_no trivial (fun _ e => nomatch e) (pa_bl.g.mono (by decide) (by decide)) rfl rfl
  · exact od_no trivial (fun _ e => nomatch e) ⟨by simp only [D.liteE]; decide +kernel, by decide +kernel, by decide +kernel⟩ rfl rfl
  · exact od_no trivial (fun _ e => nomatch e) ⟨by simp only [D.liteE]; decide +kernel, by decide +kernel, by decide +kernel⟩ rfl rfl
  · exact od_tup (by decide) (fun _ hx => nomatch hx) rfl rfl (.inl rfl)
  · exact od_tup (by decide) (fun x hx => by rw [List.mem_singleton.mp hx]; exact pa_int (by decide)) rfl rfl (.inr ⟨_, List.mem_cons_self, rfl⟩)
  · exact od_no trivial (fun _ e => nomatch e) ((gz_lst (n := 4) (b := 0) (p := 0) (by decide) (fun x hx => by
      simp only [List.mem_cons, List.not_mem_nil, or_false] at hx
      rcases hx with rfl | rfl <;> exact gi_int (szl (by decide)))).mono (by decide) (by decide)) rfl rfl
  · exact od_tup (by decide) (fun x hx => by
      simp only [List.mem_cons, List.not_mem_nil, or_false] at hx
      rcases hx with rfl | rfl | rfl | rfl <;> exact pa_int (by decide)) rfl rfl (.inr ⟨_, List.mem_cons_self, rfl⟩)
  · exact od_t2 pa_bl (pa_int (by decide)) rfl rfl (.inl rfl)
  · exact od_t2 (pa_int (by decide)) pa_non rfl rfl (.inl rfl)
  · exact od_t2 pa_1s (pa_int (by decide)) rfl rfl (.inl rfl)
  · exact od_t3 (by decide) (by decide) (by decide) (by decide +kernel)
  · exact od_t3 (by decide) (by decide) (by decide) (by decide +kernel)
  · exact od_t3 (by decide) (by decide) (by decide) (by decide +kernel)
  · exact od_t3 (by decide) (by decide) (by decide) (by decide +kernel)
  · exact od_t3 (by decide) (by decide) (by decide) (by decide +kernel)
  · exact od_t3 (by decide) (by decide) (by decide) (by decide +kernel)
  · exact od_tup (by decide) (fun x hx => by
      simp only [List.mem_cons, List.not_mem_nil, or_false] at hx
      rcases hx with rfl | rfl | rfl
      · exact pa_int (by decide)
      · exact pa_int (by decide)
      · exact pa_bl) rfl rfl (.inr ⟨_, List.mem_cons_self, rfl⟩)
  · exact od_t2 pa_12 (pa_int (by decide)) rfl rfl (.inr rfl)
  · exact od_no trivial (fun _ e => nomatch e) ⟨by simp [D.liteE], by decide, by decide⟩ rfl rfl
  · exact od_no trivial (fun _ e => nomatch e) ((gz_lst (n := 4) (b := 0) (p := 0) (by decide) (fun x hx => by
      simp only [List.mem_cons, List.not_mem_nil, or_false] at hx
      rcases hx with rfl | rfl | rfl <;> exact gi_int (szl (by decide)))).mono (by decide) (by decide)) rfl rfl
theorem w__law_complexC {T : Tk} {k : KD} (hT : TkOk T) (h : ∀ (z : Gi) T', Cz 40 (z.re, z.im) → TkOk T' → k (gD z) T') : sm__law_complex [.tank] T k := by
  rw [e__law_complex, b__law_complex]
  walk_at "wk"
  refine w__law_number hT fun a T1 sa hT1 => ?_
  walk_at "wk"
  refine w__law_number hT1 fun b T2 sb hT2 => ?_
  walk_at "wk"
  exact h ⟨a, b⟩ T2 ⟨sa, sb⟩ hT2
theorem rep_one (n : Nat) : repD [D.tup [.int 0, .int 0]] n = (List.replicate n (0 : Gi)).map gD := by
  unfold repD
  induction n with
  | zero => rfl
  | succ n ih =>
    rw [List.replicate_succ, List.flatten_cons, ih, List.replicate_succ, List.map_cons]
    rfl
theorem gs_mem {rs : List Gi} (hc : ∀ a ∈ rs, Cz 100 (a.re, a.im)) : ∀ x ∈ rs.map gD, Gs x ∧ VOk x := fun x hx => by
  obtain ⟨a, ha, rfl⟩ := List.mem_map.mp hx
  exact ⟨(gs_gD (hc a ha)).mono (by decide) (by decide), gD_vok (hc a ha)⟩
theorem bad_rep {n : Nat} (l1 : 1 ≤ n) (l8 : n ≤ 8) : Bad (.tup ((List.replicate n (0 : Gi)).map gD)) := by
  intro r T k h
  have al : ∀ a ∈ List.replicate n (0 : Gi), a = 0 := fun a ha => List.eq_of_mem_replicate ha
  refine cdx_ok (by rw [List.length_replicate]; exact l1) (by rw [List.length_replicate]; exact l8) (fun a ha => by rw [al a ha]; exact ⟨szl (by decide), szl (by decide)⟩) (fun _ => h) fun ⟨a, ha, ne⟩ => absurd (al a ha) ne
theorem bad_cx {a : Gi} (h : Cz 100 (a.re, a.im)) : Bad (gD a) := bad_in (by show 1 ≤ 2; omega) (by show 2 ≤ 8; omega) (fun x hx => by
  simp only [List.mem_cons, List.not_mem_nil, or_false] at hx
  rcases hx with rfl | rfl
  · exact vok_no trivial (fun _ e => nomatch e)
  · exact vok_no trivial (fun _ e => nomatch e)) ⟨_, List.mem_cons_self, rfl⟩
theorem intsL_ln : ∀ (j : Nat) (s : Int), (intsL s j).length = j
  | 0, _ => rfl
  | j + 1, s => by rw [intsL, List.length_cons, intsL_ln j]
theorem wr_lc {A1 A2 A3 A4 A5 : Option SV} : ∀ (vs : List D) (acc : List D) (T : Tk) (K : List D → Tk → Prop), TkOk T → (∀ (ns : List Gi) T', TkOk T' → ns.length = vs.length → (∀ a ∈ ns, Cz 40 (a.re, a.im)) → K (acc ++ ns.map gD) T') → lcK [some .tank, A1, A2, A3, A4, A5] (cN 2) dYes (dCall 1 sm__law_complex (aTank 0 (aNil))) K vs acc T
  | [], acc, T, K, hT, h => by
    have := h [] T hT rfl (fun a ha => nomatch ha)
    rw [List.map_nil, List.append_nil] at this
    exact this
  | v :: vs, acc, T, K, hT, h => by
    rw [lcK_cons]
    walk_at "wkn"
    refine w__law_complexC hT fun z T1 hz hT1 => ?_
    walk_at "wkn"
    refine wr_lc (A1 := A1) (A2 := A2) (A3 := A3) (A4 := A4) (A5 := A5) vs (acc ++ [gD z]) T1 K hT1 fun ns T' hT' e hc => ?_
    have := h (z :: ns) T' hT' (by rw [List.length_cons, List.length_cons, e]) (fun a ha => by
      rcases List.mem_cons.mp ha with rfl | ha
      · exact hz
      · exact hc a ha)
    rw [List.append_assoc]
    exact this
theorem w__law_wrong {T : Tk} {k : KD} (hT : TkOk T) (h : ∀ d T', Bad d → G5 d → TkOk T' → k d T') : sm__law_wrong [.tank] T k := by
  rw [e__law_wrong, b__law_wrong]
  walk_at "wkn"
  refine w__law_draw hT (by decide) (by decide) fun r T1 r0 r1 hT1 => ?_
  walk_at "wkn"
  refine ⟨⟨by omega, by omega⟩, ?_⟩
  refine wr_lc _ [] _ _ hT1 fun ns T2 hT2 e hc => ?_
  rw [intsL_ln] at e
  rw [List.nil_append]
  walk_at "wkn"
  refine ⟨by rw [List.length_map]; omega, ?_⟩
  rw [show ns.map gD ++ [D.tup [.int 1, .int 2]] = (ns ++ [(⟨1, 2⟩ : Gi)]).map gD by rw [List.map_append]; rfl]
  have l2 : 2 ≤ (ns ++ [(⟨1, 2⟩ : Gi)]).length := by rw [List.length_append]; show 2 ≤ ns.length + 1; omega
  have l8 : (ns ++ [(⟨1, 2⟩ : Gi)]).length ≤ 8 := by rw [List.length_append]; show ns.length + 1 ≤ 8; omega
  have hc : ∀ a ∈ ns ++ [(⟨1, 2⟩ : Gi)], Cz 100 (a.re, a.im) := fun a ha => by
    rcases List.mem_append.mp ha with ha | ha
    · exact (hc a ha).mono (by decide)
    · rw [List.mem_singleton.mp ha]
      exact ⟨szl (by decide), szl (by decide)⟩
  generalize ns ++ [(⟨1, 2⟩ : Gi)] = rs at l2 l8 hc ⊢
  rw [List.length_map]
  refine w__law_draw hT2 (by omega) (by omega) fun q T3 q0 q1 hT3 => ?_
  obtain ⟨m, rfl⟩ := Int.eq_ofNat_of_zero_le q0
  walk_at "wkn"
  refine w__law_odd hT3 fun od T4 ho hT4 => ?_
  walk_at "wkn"
  rw [show ((m : Int) + 1) = ((m + 1 : Nat) : Int) from rfl, cut_toN, cut_fromN, Int.toNat_natCast, rep_one, rep_one]
  have hl : (rs.map gD).length = rs.length := List.length_map ..
  have ml : m < rs.length := by omega
  obtain ⟨a0, ha0, h0⟩ : ∃ a ∈ rs, (rs.map gD)[0]? = some (gD a) := by
    cases rs with
    | nil => exact absurd l2 (by decide)
    | cons a rs => exact ⟨a, List.mem_cons_self, rfl⟩
  have gm := gs_mem hc
  have tl : (((rs.map gD).take m ++ [od]) ++ (rs.map gD).drop (m + 1)).length = rs.length := by
    rw [List.length_append, List.length_append, List.length_take, List.length_drop, hl, List.length_cons, List.length_nil]
    omega
  have tm : ∀ x ∈ ((rs.map gD).take m ++ [od]) ++ (rs.map gD).drop (m + 1), Gs x ∧ VOk x := fun x hx => by
    rcases List.mem_append.mp hx with hx | hx
    · rcases List.mem_append.mp hx with hx | hx
      · exact gm x (List.mem_of_mem_take hx)
      · rw [List.mem_singleton.mp hx]
        exact ⟨ho.g, ho.v⟩
    · exact gm x (List.mem_of_mem_drop hx)
  have to : ∃ x ∈ ((rs.map gD).take m ++ [od]) ++ (rs.map gD).drop (m + 1), isW 2 x = false := ⟨od, List.mem_append_left _ (List.mem_append_right _ List.mem_cons_self), ho.c⟩
  refine ⟨by rw [List.length_take]; omega, by rw [← List.length_append, tl]; omega, ⟨by simp, by omega, by omega⟩, ⟨by simp, by omega, by omega⟩, by rw [List.length_map, List.length_map, List.length_replicate]; omega, ?_⟩
  generalize ((rs.map gD).take m ++ [od]) ++ (rs.map gD).drop (m + 1) = tt at tl tm to ⊢
  rw [h0]
  walk_at "wkn"
  refine w__law_pick hT4 (by simp) (by simp) fun y T5 hy hT5 => ?_
  simp only [List.mem_cons, List.not_mem_nil, or_false] at hy
  rcases hy with rfl | rfl | rfl | rfl | rfl | rfl | rfl
  · exact h _ _ (bad_in (by omega) (by omega) (fun x hx => (tm x hx).2) to) ((gz_tup (n := 8) (by omega) fun x hx => (tm x hx).1).mono (by decide) (by decide)) hT5
  · exact h _ _ (bad_len (.inl Nat.zero_lt_one)) ((gz_tup (xs := []) (n := 0) (b := 0) (p := 0) (Nat.le_refl 0) (fun x hx => nomatch hx)).mono (by decide) (by decide)) hT5
  · exact h _ _ (bad_no trivial fun _ e => nomatch e) ((gz_lst (n := 8) (by omega) fun x hx => (gm x hx).1).mono (by decide) (by decide)) hT5
  · exact h _ _ (bad_rep (by omega) (by omega)) ((gz_tup (n := 8) (b := 90) (p := 3) (by rw [List.length_map, List.length_replicate]; omega) fun x hx => (gs_mem (rs := List.replicate _ 0) (fun a ha => by rw [List.eq_of_mem_replicate ha]; exact ⟨szl (by decide), szl (by decide)⟩) x hx).1).mono (by decide) (by decide)) hT5
  · refine h _ _ (bad_len (.inr ?_)) ((gz_tup (n := 9) (b := 90) (p := 3) ?_ fun x hx => ?_).mono (by decide) (by decide)) hT5
    · rw [List.length_append, hl, List.length_map, List.length_replicate]; omega
    · rw [List.length_append, hl, List.length_map, List.length_replicate]; omega
    · rcases List.mem_append.mp hx with hx | hx
      · exact (gm x hx).1
      · exact (gs_mem (rs := List.replicate _ 0) (fun a ha => by rw [List.eq_of_mem_replicate ha]; exact ⟨szl (by decide), szl (by decide)⟩) x hx).1
  · exact h _ _ ho.b (ho.g.mono (by decide) (by decide)) hT5
  · exact h _ _ (bad_cx (hc a0 ha0)) ((gs_gD (hc a0 ha0)).mono (by decide) (by decide)) hT5

theorem w__law_place {T : Tk} {k : KD} (hT : TkOk T) (h : ∀ (q : P3) (u v : Rat) T', PlQ 40 q u v → TkOk T' → k (.tup [.int q.1, .int q.2.1, .int q.2.2]) T') : sm__law_place [.tank] T k := by
  rw [e__law_place, b__law_place]
  walk_at "ev"
  refine w__law_pick hT (by simp) (by simp) fun x T1 hx hT1 => ?_
  have hx' : ∃ s : Int, x = .int s ∧ 0 ≤ s ∧ s ≤ 99 := by
    simp only [List.mem_cons, List.not_mem_nil, or_false] at hx
    rcases hx with rfl | rfl | rfl | rfl | rfl | rfl | rfl <;> exact ⟨_, rfl, by decide, by decide⟩
  obtain ⟨s, rfl, s0, s1⟩ := hx'
  have fin : ∀ (d : Int) (T2 : Tk), 0 < d → Sz 40 d → TkOk T2 → sm__law_number [.tank] T2 (fun y T3 => sm__law_number [.tank] T3 fun z T4 => sm__law_least [.val (.tup [y, z, .int d])] T4 k) := by
    intro d T2 d0 sd hT2
    refine w__law_number hT2 fun a T3 sa hT3 => w__law_number hT3 fun b T4 sb hT4 => ?_
    have dz : (d : Rat) ≠ 0 := fun e => by have := cast_inj (b := 0) e; omega
    exact w_least3 (u := a / d) (v := b / d) d0 sa sb sd (by decide) (by grind) (by grind) fun q hq => h q _ _ _ hq hT4
  walk_at "ev"
  split
  · refine w__law_draw hT1 (by omega) (by omega) fun r T2 h2 h3 hT2 => ?_
    walk_at "ev"
    exact fin _ _ (by omega) (by unfold Sz; omega) hT2
  · refine w__law_draw hT1 (by decide) (by decide) fun r T2 h2 h3 hT2 => ?_
    walk_at "ev"
    refine ⟨lit_mul' (by decide), ?_⟩
    refine w__law_draw hT2 (by decide) (by decide) fun r' T3 h4 h5 hT3 => ?_
    walk_at "ev"
    exact fin _ _ (by omega) (by unfold Sz; omega) hT3
theorem w__law_zero {T : Tk} {q : P3} {k : KD} (h : k (.str (if isNt (pD q) = true then "none" else "let")) T) : sm__law_zero [.val (pD q)] T k := by
  rw [e__law_zero, b__law_zero]
  walk_at "wkn"
  rw [show isNt (pD q) = (decide (q.1 = 0) && (decide (q.2.1 = 0) && decide (q.2.2 = 1))) from rfl] at h
  refine iteB_of (fun c => ?_) (fun c => ?_)
  · rw [if_pos c] at h
    walk_at "wkn"
    exact h
  · rw [if_neg (by rw [c]; decide)] at h
    walk_at "wkn"
    exact h
/-- a case that is kept -/
def Kc (c : D) : Prop := ∃ (way : Str) (d1 d2 : D) (o : Ot), c = .tup [.str way, d1, d2, .str o.w, o.g] ∧ Rn se__law_run [.val (.str way), .val d1, .val d2] o ∧ (∀ i g, o = .er i g → G5 g)
theorem kc_lt {way : Str} {d1 d2 : D} {o : Ot} (run : Rn se__law_run [.val (.str way), .val d1, .val d2] o) (h : o = .lt) : Kc (.tup [.str way, d1, d2, .str "let", .non]) := ⟨way, d1, d2, .lt, rfl, h ▸ run, fun _ _ e => nomatch e⟩
theorem kc_no {way : Str} {d1 d2 : D} {o : Ot} (run : Rn se__law_run [.val (.str way), .val d1, .val d2] o) (h : o = .no) : Kc (.tup [.str way, d1, d2, .str "none", .non]) := ⟨way, d1, d2, .no, rfl, h ▸ run, fun _ _ e => nomatch e⟩
theorem kc_er {way : Str} {d1 d2 : D} {o : Ot} (i : _root_.Fin 3) {g : D} (run : Rn se__law_run [.val (.str way), .val d1, .val d2] o) (h : o = .er i g) (hg : G5 g) : Kc (.tup [.str way, d1, d2, .str (wrdN i), g]) := ⟨way, d1, d2, .er i g, rfl, h ▸ run, fun _ _ e => by cases e; exact hg⟩
theorem g5_non : G5 .non := pa_non.g.mono (by decide) (by decide)
theorem ot_shows (o : Ot) (h : ∀ i g, o = .er i g → G5 g) : ReprG [.str o.w, o.g] := by
  cases o with
  | lt => exact ge_shows g5_non (by simp only [D.lite, Ot.w]; decide +kernel) (by decide +kernel)
  | no => exact ge_shows g5_non (by simp only [D.lite, Ot.w]; decide +kernel) (by decide +kernel)
  | er i g =>
    have hg := h i g rfl
    match i with
    | 0 =>
      show ReprG [.str (wrdN 0), g]
      exact ge_shows hg (by simp only [D.lite, wrdN]; decide +kernel) (by decide +kernel)
    | 1 =>
      show ReprG [.str (wrdN 1), g]
      exact ge_shows hg (by simp only [D.lite, wrdN]; decide +kernel) (by decide +kernel)
    | 2 =>
      show ReprG [.str (wrdN 2), g]
      exact ge_shows hg (by simp only [D.lite, wrdN]; decide +kernel) (by decide +kernel)
theorem cases_for {K : dEnds} (fin : ∀ T a b c d e, K.nx [some .tank, a, b, c, d, e] T) :
    ∀ (cs : List D) (a b c d e : Option SV) (T : Tk), (∀ c ∈ cs, Kc c) → forL (gTL 5 (gsCons (gN 1) (gsCons (gN 2) (gsCons (gN 3) (gsCons (gN 4) (gsCons (gN 5) (gsNil))))))) (sIf (dTst (dOp (oF fNe) (dBlt (oG fReprG) (aCons (dCall 3 sm__law_met (aCons (dVar 1) (aCons (dVar 2) (aCons (dVar 3) (aNil))))) (aNil))) (dBlt (oG fReprG) (aCons (dLst (aCons (dVar 4) (aCons (dVar 5) (aNil)))) (aNil))))) (sRet (dC (.bl false))) ((fun k ρ T => k.nx ρ T))) K cs [some .tank, a, b, c, d, e] T
  | [], a, b, c, d, e, T, _ => fin T a b c d e
  | x :: xs, a, b, c, d, e, T, h => by
    have ih := cases_for fin xs
    obtain ⟨way, d1, d2, o, rfl, run, hg⟩ := h x List.mem_cons_self
    have sh := ot_shows o hg
    rw [forL_c]
    walk_at "wkn"
    refine w__law_met run ?_
    walk_at "wkn"
    exact ⟨sh, sh, ih _ _ _ _ _ _ fun y hy => h y (List.mem_cons_of_mem _ hy)⟩
theorem fa {P : D → Prop} {a : D} {l : List D} (h : P a) (q : ∀ c ∈ l, P c) : ∀ c ∈ a :: l, P c := fun c hc => by
  rcases List.mem_cons.mp hc with rfl | hc
  · exact h
  · exact q c hc
theorem fa0 {P : D → Prop} : ∀ c ∈ ([] : List D), P c := fun _ hc => nomatch hc
theorem oC_n {d : D} (h : isW 2 d = false) : oC d = .er 0 d := by unfold oC; rw [if_neg (by rw [h]; decide)]
theorem oC_y {d : D} (h : isW 2 d = true) : oC d = .lt := by unfold oC; rw [if_pos h]
theorem oCC_n {d e : D} (h : isW 2 d = false) : oCC d e = .er 0 d := by unfold oCC; rw [if_neg (by rw [h]; decide)]
theorem oCC_m {d e : D} (h : isW 2 d = true) (q : isW 2 e = false) : oCC d e = .er 0 e := by unfold oCC; rw [if_pos h, if_neg (by rw [q]; decide)]
theorem oCC_y {d e : D} (h : isW 2 d = true) (q : isW 2 e = true) : oCC d e = .lt := by unfold oCC; rw [if_pos h, if_pos q]
theorem oPl_n {d e : D} (h : isW 2 d = false) : oPl d e = .er 0 d := by unfold oPl; rw [if_neg (by rw [h]; decide)]
theorem oPl_m {d e : D} (h : isW 2 d = true) (q : isW 2 e = false) : oPl d e = .er 0 e := by unfold oPl; rw [if_pos h, if_neg (by rw [q]; decide)]
theorem oPl_y {d e : D} (h : isW 2 d = true) (q : isW 2 e = true) (z : (isZ d && isZ e) = false) : oPl d e = .lt := by unfold oPl; rw [if_pos h, if_pos q, if_neg (by rw [z]; decide)]
theorem oPl_z {d e : D} (h : isW 2 d = true) (q : isW 2 e = true) (z : (isZ d && isZ e) = true) : oPl d e = .no := by unfold oPl; rw [if_pos h, if_pos q, if_pos z]
theorem oRR_n {d e : D} (h : isRt d = false) : oRR d e = .er 2 d := by unfold oRR; rw [if_neg (by rw [h]; decide)]
theorem oRR_m {d e : D} (h : isRt d = true) (q : isRt e = false) : oRR d e = .er 2 e := by unfold oRR; rw [if_pos h, if_neg (by rw [q]; decide)]
theorem oRR_y {d e : D} (h : isRt d = true) (q : isRt e = true) : oRR d e = .lt := by unfold oRR; rw [if_pos h, if_pos q]
theorem oOv_n {d e : D} (h : isRt d = false) : oOv d e = .er 2 d := by unfold oOv; rw [if_neg (by rw [h]; decide)]
theorem oOv_m {d e : D} (h : isRt d = true) (q : isRt e = false) : oOv d e = .er 2 e := by unfold oOv; rw [if_pos h, if_neg (by rw [q]; decide)]
theorem oOv_y {d e : D} (h : isRt d = true) (q : isRt e = true) (z : isNt e = false) : oOv d e = .lt := by unfold oOv; rw [if_pos h, if_pos q, if_neg (by rw [z]; decide)]
theorem oOv_z {d e : D} (h : isRt d = true) (q : isRt e = true) (z : isNt e = true) : oOv d e = .no := by unfold oOv; rw [if_pos h, if_pos q, if_pos z]
theorem w__law_cases {T : Tk} {k : KD} (hT : TkOk T) (h : ∀ (cs : List D) T', cs.length ≤ 100 → (∀ c ∈ cs, Kc c) → TkOk T' → k (.lst cs) T') : sm__law_cases [.tank] T k := by
  rw [e__law_cases, b__law_cases]
  walk_at "wkn"
  refine w__law_complexC hT fun one T1 h1 hT1 => ?_
  walk_at "wkn"
  refine w__law_complexC hT1 fun two T2 h2 hT2 => ?_
  walk_at "wkn"
  refine w__law_odd hT2 fun od T3 ho hT3 => ?_
  walk_at "wkn"
  refine w__law_odd hT3 fun ot T4 hu hT4 => ?_
  walk_at "wkn"
  refine w__law_place hT4 fun hr _ _ T5 pr hT5 => ?_
  walk_at "wkn"
  refine w__law_place hT5 fun tr _ _ T6 pt hT6 => ?_
  walk_at "wkn"
  refine w__law_wrong hT6 fun wr T7 bw gw hT7 => ?_
  walk_at "wk"
  rw [show D.tup [.int tr.1, .int tr.2.1, .int tr.2.2] = pD tr from rfl, show D.tup [.int hr.1, .int hr.2.1, .int hr.2.2] = pD hr from rfl]
  refine w__law_zero ?_
  walk_at "wk"
  have sm : ∀ {a b : Int}, a.natAbs < 128 → b.natAbs < 128 → VOk (.tup [.int a, .int b]) := fun ha hb => gD_vok (g := ⟨_, _⟩) ⟨szl ha, szl hb⟩
  have tn : ∀ {q : P3}, Pt 100 q → VOk (pD q) := fun h => vok_pD h (Nat.le_refl _)
  have v1 := gD_vok (h1.mono (by decide : 40 ≤ 100))
  have v2 := gD_vok (h2.mono (by decide : 40 ≤ 100))
  have vu : VOk (.tup [.int 1, .int 0]) := sm (by decide) (by decide)
  have vz : VOk (.tup [.int 0, .int 0]) := sm (by decide) (by decide)
  have v01 : VOk (.tup [.int 0, .int 1]) := sm (by decide) (by decide)
  have vh := vok_pD pr.pt (by decide : 40 ≤ 100)
  have vt := vok_pD pt.pt (by decide : 40 ≤ 100)
  have rh := pr.pt.isRt pr.pos
  have rt := pt.pt.isRt pt.pos
  have pf : Pt 100 (1, 0, 0) := ⟨.inl ⟨rfl, rfl, rfl⟩, by decide, szl (by decide), szl (by decide), szl (by decide)⟩
  have p1 : Pt 100 (1, 2, 2) := ⟨.inr (by decide), by decide +kernel, szl (by decide), szl (by decide), szl (by decide)⟩
  have p0 : Pt 100 (0, 0, 1) := ⟨.inr (by decide), by decide +kernel, szl (by decide), szl (by decide), szl (by decide)⟩
  have vf : VOk (.tup [.int 1, .int 0, .int 0]) := tn pf
  have v122 : VOk (.tup [.int 1, .int 2, .int 2]) := tn p1
  have vn : VOk (.tup [.int 0, .int 0, .int 1]) := tn p0
  have ff : isRt (.tup [.int 1, .int 0, .int 0]) = false := by decide +kernel
  have r122 : isRt (.tup [.int 1, .int 2, .int 2]) = true := by decide +kernel
  have rn : isRt (.tup [.int 0, .int 0, .int 1]) = true := by decide +kernel
  have gf : G5 (.tup [.int 1, .int 0, .int 0]) := (gs_pD pf (Nat.le_refl _)).mono (by decide) (by decide)
  have god : G5 od := ho.g.mono (by decide) (by decide)
  have rcl : Rn se__law_run [.val (.str "common"), .val (.tup [.tup [.int 0, .int 0], .tup [.int 1, .int 0]]), .val (.int 0)] .lt := rn_common_let
  have last : Kc (.tup [.str "over", .tup [.int 0, .int 0, .int 1], pD tr, .str (if isNt (pD tr) = true then "none" else "let"), .non]) := by
    cases z : isNt (pD tr) with
    | true => rw [if_pos rfl]; exact kc_no (rn_over vn vt) (oOv_z rn rt z)
    | false => rw [if_neg (by decide)]; exact kc_lt (rn_over vn vt) (oOv_y rn rt z)
  refine h _ T7 (Nat.le_of_ble_eq_true rfl) ?_ hT7
  refine fa (kc_er 1 (rn_common bw) rfl gw) ?_
  refine fa (kc_lt rcl rfl) ?_
  refine fa (kc_er 0 (rn_added ho.v hu.v) (oCC_n ho.c) god) ?_
  refine fa (kc_er 0 (rn_added v1 ho.v) (oCC_m rfl ho.c) god) ?_
  refine fa (kc_lt (rn_added vu v2) (oCC_y rfl rfl)) ?_
  refine fa (kc_er 0 (rn_subtracted ho.v hu.v) (oCC_n ho.c) god) ?_
  refine fa (kc_er 0 (rn_subtracted v1 ho.v) (oCC_m rfl ho.c) god) ?_
  refine fa (kc_lt (rn_subtracted vu v2) (oCC_y rfl rfl)) ?_
  refine fa (kc_er 0 (rn_product ho.v hu.v) (oCC_n ho.c) god) ?_
  refine fa (kc_er 0 (rn_product v1 ho.v) (oCC_m rfl ho.c) god) ?_
  refine fa (kc_lt (rn_product vu v2) (oCC_y rfl rfl)) ?_
  refine fa (kc_er 0 (rn_quotient ho.v hu.v) (oCC_n ho.c) god) ?_
  refine fa (kc_er 0 (rn_quotient v1 ho.v) (oCC_m rfl ho.c) god) ?_
  refine fa (kc_lt (rn_quotient vu v2) (oCC_y rfl rfl)) ?_
  refine fa (kc_er 0 (rn_place ho.v hu.v) (oPl_n ho.c) god) ?_
  refine fa (kc_er 0 (rn_place v1 ho.v) (oPl_m rfl ho.c) god) ?_
  refine fa (kc_lt (rn_place vu v2) (oPl_y rfl rfl rfl)) ?_
  refine fa (kc_er 0 (rn_conjugate ho.v) (oC_n ho.c) god) ?_
  refine fa (kc_lt (rn_conjugate v1) (oC_y rfl)) ?_
  refine fa (kc_er 0 (rn_norm ho.v) (oC_n ho.c) god) ?_
  refine fa (kc_lt (rn_norm v1) (oC_y rfl)) ?_
  refine fa (kc_er 0 (rn_quarter ho.v) (oC_n ho.c) god) ?_
  refine fa (kc_lt (rn_quarter v1) (oC_y rfl)) ?_
  refine fa (kc_er 0 (rn_root ho.v) (oC_n ho.c) god) ?_
  refine fa (kc_lt (rn_root v1) (oC_y rfl)) ?_
  refine fa (kc_er 2 (rn_sum ho.v hu.v) (oRR_n ho.r) god) ?_
  refine fa (kc_er 2 (rn_sum vh ho.v) (oRR_m rh ho.r) god) ?_
  refine fa (kc_er 2 (rn_sum vf hu.v) (oRR_n ff) gf) ?_
  refine fa (kc_er 2 (rn_sum vh vf) (oRR_m rh ff) gf) ?_
  refine fa (kc_er 2 (rn_sum ho.v vf) (oRR_n ho.r) god) ?_
  refine fa (kc_lt (rn_sum vt v122) (oRR_y rt r122)) ?_
  refine fa (kc_er 2 (rn_difference ho.v hu.v) (oRR_n ho.r) god) ?_
  refine fa (kc_er 2 (rn_difference vh ho.v) (oRR_m rh ho.r) god) ?_
  refine fa (kc_er 2 (rn_difference vf hu.v) (oRR_n ff) gf) ?_
  refine fa (kc_er 2 (rn_difference vh vf) (oRR_m rh ff) gf) ?_
  refine fa (kc_er 2 (rn_difference ho.v vf) (oRR_n ho.r) god) ?_
  refine fa (kc_lt (rn_difference vt v122) (oRR_y rt r122)) ?_
  refine fa (kc_er 2 (rn_times ho.v hu.v) (oRR_n ho.r) god) ?_
  refine fa (kc_er 2 (rn_times vh ho.v) (oRR_m rh ho.r) god) ?_
  refine fa (kc_er 2 (rn_times vf hu.v) (oRR_n ff) gf) ?_
  refine fa (kc_er 2 (rn_times vh vf) (oRR_m rh ff) gf) ?_
  refine fa (kc_er 2 (rn_times ho.v vf) (oRR_n ho.r) god) ?_
  refine fa (kc_lt (rn_times vt v122) (oRR_y rt r122)) ?_
  refine fa (kc_er 2 (rn_over ho.v hu.v) (oOv_n ho.r) god) ?_
  refine fa (kc_er 2 (rn_over vh ho.v) (oOv_m rh ho.r) god) ?_
  refine fa (kc_er 2 (rn_over vf hu.v) (oOv_n ff) gf) ?_
  refine fa (kc_er 2 (rn_over vh vf) (oOv_m rh ff) gf) ?_
  refine fa (kc_er 2 (rn_over ho.v vf) (oOv_n ho.r) god) ?_
  refine fa (kc_lt (rn_over vt v122) (oOv_y rt r122 rfl)) ?_
  refine fa (kc_er 2 (rn_distance ho.v hu.v) (oRR_n ho.r) god) ?_
  refine fa (kc_er 2 (rn_distance vh ho.v) (oRR_m rh ho.r) god) ?_
  refine fa (kc_er 2 (rn_distance vf hu.v) (oRR_n ff) gf) ?_
  refine fa (kc_er 2 (rn_distance vh vf) (oRR_m rh ff) gf) ?_
  refine fa (kc_er 2 (rn_distance ho.v vf) (oRR_n ho.r) god) ?_
  refine fa (kc_lt (rn_distance vt v122) (oRR_y rt r122)) ?_
  refine fa (kc_no (rn_place vz vz) (oPl_z rfl rfl rfl)) ?_
  refine fa (kc_lt (rn_place v1 v01) (oPl_y rfl rfl (Bool.and_false _))) ?_
  refine fa (kc_er 0 (rn_place vz ho.v) (oPl_m rfl ho.c) god) ?_
  refine fa (kc_er 2 (rn_over vn ho.v) (oOv_m rn ho.r) god) ?_
  refine fa (kc_no (rn_over vh vn) (oOv_z rh rn rfl)) ?_
  refine fa (last) ?_
  exact fa0
theorem w__law_right {T : Tk} {k : KD} (hT : TkOk T) (h : ∀ T', k (.bl true) T') : sm__law_right [.tank] T k := by
  rw [e__law_right, b__law_right]
  walk_at "wkn"
  refine w__law_cases hT fun cs T1 l hc hT1 => ?_
  walk_at "wkn"
  refine ⟨by omega, ?_⟩
  refine cases_for (fun T a b c d e => ?_) cs none none none none none T1 hc
  walk_at "wkn"
  exact h T

theorem w_law {ns : List Int} (h : ns.length ≤ 63) : sm_law [.val (scrD ns)] [] fun r _ => r = .bl true := by
  rw [e_law, b_law, scrD]
  walk_at "ev"
  refine w__law_rounds fun r hr => ?_
  rcases hr with rfl | rfl
  · refine ⟨by decide, by decide, ?_⟩
    simp only [show Int.toNat 2 = 2 from rfl, intsL]
    walk_at "ev"
    refine w__law_tank (by decide) fun T hT => ?_
    walk_at "ev"
    refine w__law_right hT fun T' => ?_
    walk_at "ev"
    refine w__law_tank (by decide) fun T hT => ?_
    walk_at "ev"
    refine w__law_right hT fun T' => ?_
    walk_at "ev"
    simp
  · refine ⟨by decide, by decide, ?_⟩
    simp only [show Int.toNat 3 = 3 from rfl, intsL]
    walk_at "ev"
    refine w__law_tank (by decide) fun T hT => ?_
    walk_at "ev"
    refine w__law_right hT fun T' => ?_
    walk_at "ev"
    refine w__law_tank (by decide) fun T hT => ?_
    walk_at "ev"
    refine w__law_right hT fun T' => ?_
    walk_at "ev"
    refine w__law_tank (by decide) fun T hT => ?_
    walk_at "ev"
    refine w__law_right hT fun T' => ?_
    walk_at "ev"
    simp

theorem w_fin (ns : List Int) (h : ns.length ≤ 63) : sm_law [.val (scrD ns)] [] fun r _ => r = .bl true := w_law h
end L2.G
open PySem PySem.W PyProof.Rows in
set_option maxRecDepth 100000 in
set_option maxHeartbeats 0 in
theorem PySem.Challenge.cw_drawarms_k05_complexes_and_places_refuse_holds : PySem.Challenge.rw_drawarms_k05_complexes_and_places_refuse.Holds := by
  w_on; o_law
  refine HandSHeadRun.head_imp (r := PySem.W.OpenLaw.row PySem.Challenge.rw_drawarms_k05_complexes_and_places_refuse) (q := L2.G.hdV) (H := L2.G.hdK) (ob := L2.G.hdO) (M := 20000) (loose := L2.G.hdNames) (d := HandSHeadRun.topDef (PySem.W.OpenLaw.row PySem.Challenge.rw_drawarms_k05_complexes_and_places_refuse).prog 74) (kwd := []) L2.G.hdO_eq
    L2.G.hd_run (by kernel_rfl) (by kernel_rfl) (by kernel_rfl) (by rfl) (by first | assumption | decide +kernel) (by decide +kernel) ⟨rfl, rfl, rfl, rfl, rfl, by decide +kernel⟩ ?hw ?hc
  case hw => w_witness2
  case hc =>
    refine L2.G.g_walkE (l := PySem.Challenge.rw_drawarms_k05_complexes_and_places_refuse) (n := 63) (k := 11) (x := "law") (y := "_law_script") (sem := L2.G.sm_law) L2.G.hd rfl rfl (by decide) (by kernel_rfl) ⟨rfl, by decide, by decide⟩ (by kernel_rfl) ?F L2.G.w_fin
    intro w mg h Y G
    obtain ⟨K, KX, c, te⟩ := Y
    exact ⟨K, KX, c, te, fun base hK hG => L2.G.ok_law (L2.G.hd_tx hK hG c)⟩
