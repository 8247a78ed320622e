import PyProof.Rows.All
import Wide.All
import OpenK.AllK
import Wide.FinOn
import HandS.Base
import HandS.Call
import HandS.List
import HandS.Comp
import HandS.Ends
import HandS.Words
import HandS.Wide
import HandS.Lambda
import HandS.Gcd
import HandS.IsInst
import HandS.Conv
import HandS.TupAny
import HandS.WideBits
import HandS.Iter
import HandS.RaiseMore
import HandS.Deep
import HandS.ForMost
import HandS.Zip
import HandS.Style
import HandS.Star
import KE.GoesEnum
import HandS.NoneIn
import HandS.Dict
import HandS.TupSets
import KE.KSortTupG
import KE.KStateDown
import HandS.Exc
import HandS.ExcIs
import KE.KTryMore
import HandS.Head0
import HandS.Head1
import HandS.Head2
import HandS.Head3
import HandS.HeadHook1
import HandS.ExcOwn
import HandS.TryOnly
import HandS.TupMul
import HandS.ForExc
import HandS.SetFor
import HandS.Strs
import KE.GoesMore
import PyProof.SeqIndex
import PyProof.WalksMore
import PyProof.MinMaxWalk
import PySem.Challenge.RW_drawarms_k64_whole_chains_that_never_clo
set_option Elab.async false
set_option linter.all false
set_option maxRecDepth 100000
set_option maxHeartbeats 0
namespace L2.G
/-- the defs that make lambdas -/
def lamNames : List PySem.Str := []
end L2.G
namespace L2.G
open PySem PySem.Spec PyProof.Rows

/-! data: what a Python value is, without the heap -/
inductive D where
  | non | bl (b : Bool) | int (i : Int) | str (x : Str) | tup (xs : List D) | lst (xs : List D)
  | obj (C : Addr) (ns : List Str) (vs : List D) | ref (a : Addr) | scr (xs : List D) | dct (ks : List Key) (ds : List D)

mutual
inductive Rep (K : PySem.W.Frag) (F : Hp) : D → V → Prop
  | non : Rep K F .non .non
  | bl (b : Bool) : Rep K F (.bl b) (.bl b)
  | int (i : Int) : Rep K F (.int i) (.int i)
  | str (x : Str) : Rep K F (.str x) (.str x)
  | tup {a : Addr} {xs : List V} {ds : List D} : SqT K F a xs → RepL K F ds xs → Rep K F (.tup ds) (.ref a)
  | lst {a : Addr} {xs : List V} {ds : List D} : F a = some (.lst xs) → RepL K F ds xs → Rep K F (.lst ds) (.ref a)
  | obj {a C dx : Addr} {fs : List (Str × V)} {ns : List Str} {ds : List D} : F a = some (.ins C dx fs) → fs.map (·.1) = ns → RepL K F ds (fs.map (·.2)) → Rep K F (.obj C ns ds) (.ref a)
  | ref (a : Addr) : (K.lookup a).isSome = true → Rep K F (.ref a) (.ref a)
  | scr {a : Addr} {xs : List V} {ds : List D} : SqL K F a xs → RepL K F ds xs → Rep K F (.scr ds) (.ref a)
  | dct {a : Addr} {kvs : List (Key × V)} {ks : List Key} {ds : List D} : F a = some (.dK kvs) → kvs.map (·.1) = ks → RepL K F ds (kvs.map (·.2)) → Rep K F (.dct ks ds) (.ref a)
inductive RepL (K : PySem.W.Frag) (F : Hp) : List D → List V → Prop
  | nil : RepL K F [] []
  | cons {d : D} {ds : List D} {v : V} {vs : List V} : Rep K F d v → RepL K F ds vs → RepL K F (d :: ds) (v :: vs)
end

theorem same_t {K : PySem.W.Frag} {F F' : Hp} {a : Addr} {xs : List V} (e : Same F F') (h : SqT K F a xs) : SqT K F' a xs := by
  rcases h with (h | ⟨o, h⟩) | h
  · left; left; exact e _ _ h
  · left; right; exact ⟨o, e _ _ h⟩
  · right; exact h

mutual
theorem Rep.mono {K : PySem.W.Frag} {F F' : Hp} (e : Same F F') : ∀ {d : D} {v : V}, Rep K F d v → Rep K F' d v
  | _, _, .non => .non
  | _, _, .bl b => .bl b
  | _, _, .int i => .int i
  | _, _, .str x => .str x
  | _, _, .tup h q => .tup (same_t e h) (RepL.mono e q)
  | _, _, .lst h q => .lst (e _ _ h) (RepL.mono e q)
  | _, _, .obj h n q => .obj (e _ _ h) n (RepL.mono e q)
  | _, _, .ref a h => .ref a h
  | _, _, .scr h q => .scr (e.seq h) (RepL.mono e q)
  | _, _, .dct h n q => .dct (e _ _ h) n (RepL.mono e q)
theorem RepL.mono {K : PySem.W.Frag} {F F' : Hp} (e : Same F F') : ∀ {ds : List D} {vs : List V}, RepL K F ds vs → RepL K F' ds vs
  | _, _, .nil => .nil
  | _, _, .cons h q => .cons (Rep.mono e h) (RepL.mono e q)
end
theorem RepL.len {K : PySem.W.Frag} {F : Hp} : ∀ {ds : List D} {vs : List V}, RepL K F ds vs → ds.length = vs.length
  | _, _, .nil => rfl
  | _, _, .cons _ q => by simp [RepL.len q]
theorem RepL.get {K : PySem.W.Frag} {F : Hp} : ∀ {ds : List D} {vs : List V} {i : Nat} {d : D}, RepL K F ds vs → ds[i]? = some d → ∃ v, vs[i]? = some v ∧ Rep K F d v
  | _, _, _, _, .nil, e => by simp at e
  | _, _, 0, _, .cons h _, e => by simp at e; subst e; exact ⟨_, rfl, h⟩
  | _, _, i + 1, _, .cons _ q, e => by
    obtain ⟨v, h1, h2⟩ := RepL.get (i := i) q (by simpa using e)
    exact ⟨v, by simpa using h1, h2⟩
theorem RepL.getV {K : PySem.W.Frag} {F : Hp} : ∀ {ds : List D} {vs : List V} {i : Nat} {v : V}, RepL K F ds vs → vs[i]? = some v → ∃ d, ds[i]? = some d ∧ Rep K F d v
  | _, _, _, _, .nil, e => by simp at e
  | _, _, 0, _, .cons h _, e => by simp at e; subst e; exact ⟨_, rfl, h⟩
  | _, _, i + 1, _, .cons _ q, e => by
    obtain ⟨v, h1, h2⟩ := RepL.getV (i := i) q (by simpa using e)
    exact ⟨v, by simpa using h1, h2⟩
theorem RepL.app {K : PySem.W.Frag} {F : Hp} : ∀ {ds es : List D} {vs ws : List V}, RepL K F ds vs → RepL K F es ws → RepL K F (ds ++ es) (vs ++ ws)
  | _, _, _, _, .nil, q => q
  | _, _, _, _, .cons h t, q => .cons h (RepL.app t q)
theorem RepL.take {K : PySem.W.Frag} {F : Hp} : ∀ {ds : List D} {vs : List V} (n : Nat), RepL K F ds vs → RepL K F (ds.take n) (vs.take n)
  | _, _, 0, _ => .nil
  | _, _, _ + 1, .nil => .nil
  | _, _, n + 1, .cons h t => .cons h (RepL.take n t)
theorem RepL.drop {K : PySem.W.Frag} {F : Hp} : ∀ {ds : List D} {vs : List V} (n : Nat), RepL K F ds vs → RepL K F (ds.drop n) (vs.drop n)
  | _, _, 0, q => q
  | _, _, _ + 1, .nil => .nil
  | _, _, n + 1, .cons _ t => RepL.drop n t
theorem RepL.set {K : PySem.W.Frag} {F : Hp} {d : D} {v : V} (r : Rep K F d v) : ∀ {ds : List D} {vs : List V} (n : Nat), RepL K F ds vs → RepL K F (ds.set n d) (vs.set n v)
  | _, _, _, .nil => .nil
  | _, _, 0, .cons _ t => .cons r t
  | _, _, n + 1, .cons h t => .cons h (RepL.set r n t)

/-! slots, worlds -/
abbrev Tk := List D
inductive SV where
  | val (d : D) | own (xs : List D) | tank | exc (a : Addr) (g : Option (Addr × Str × D)) | fn (f c : Addr) (q : Str) | ptup (ds : List D)
abbrev En := List (Option SV)
abbrev KD := D → Tk → Prop
abbrev dE := En → Tk → KD → Prop
abbrev dT := En → Tk → (Bool → Tk → Prop) → Prop
abbrev dA := En → Tk → (List SV → Tk → Prop) → Prop
structure dEnds where
  nx : En → Tk → Prop
  rt : KD
  bk : En → Tk → Prop
  ct : En → Tk → Prop
abbrev dS := dEnds → En → Tk → Prop

/-- the table of the code objects that the def x makes -/
def tabOf (K : PySem.W.Frag) (x : Str) : Option (Addr × Str) := match PySem.W.nsIn K mainGlobals x with
  | some (some (.ref f)) => (match K.lookup f with
    | some ⟨_, _, .func fd, _⟩ => (match fd.code with
      | .ref c => (match K.lookup c with
        | some ⟨_, _, .fields vs, _⟩ => (match (vs[11]? : Option Value) with
          | some (.ref P) => some (P, x ++ ".<locals>." ++ "<lambda>")
          | _ => none)
        | _ => none)
      | _ => none)
    | _ => none)
  | _ => none
def tabsOf (K : PySem.W.Frag) : List (Addr × Str) := lamNames.filterMap (tabOf K)
/-- no table -/
def noTb (o : HO) : Prop := ∀ ps, o ≠ .tbl ps
structure TabsK (K : PySem.W.Frag) (F H : Hp) : Prop where
  none : ∀ p ∈ tabsOf K, F p.1 = none
  tab : LamX.Tabs (tabsOf K) H
  no : ∀ b o, F b = some o → noTb o
  only : ∀ b ps, H b = some (.tbl ps) → ∃ q, (b, q) ∈ tabsOf K
theorem TabsK.ext {K : PySem.W.Frag} {F H F' H' : Hp} (w : TabsK K F H) (s : ∀ p ∈ tabsOf K, F p.1 = .none → F' p.1 = .none) (e : ∀ b o, H b = some o → (∃ ps, o = .tbl ps) ∨ (∃ q, o = LamX.CodeO b q) → H' b = some o) (n : ∀ b o, F' b = some o → noTb o) (y : ∀ b ps, H' b = some (.tbl ps) → H b = some (.tbl ps)) : TabsK K F' H' :=
  ⟨fun p hp => s p hp (w.none p hp), fun p hp => by
    obtain ⟨ps, h1, h2, h3⟩ := w.tab p hp
    refine ⟨ps, e _ _ h1 (.inl ⟨_, rfl⟩), h2, fun pos cv hc => ?_⟩
    obtain ⟨c, e1, e2⟩ := h3 pos cv hc
    exact ⟨c, e1, e _ _ e2 (.inr ⟨_, rfl⟩)⟩, n, fun b ps q => w.only b ps (y b ps q)⟩
theorem upd_tb {H : Hp} {p : Addr} {o : HO} (n : noTb o) : ∀ b ps, upd H p o b = some (.tbl ps) → H b = some (.tbl ps) := fun b ps q => by
  by_cases hb : b = p
  · subst hb; rw [upd_same] at q; cases q; exact absurd rfl (n ps)
  · rw [upd_ne hb] at q; exact q
/-- a new object -/
theorem TabsK.new {K : PySem.W.Frag} {F H : Hp} {p : Addr} {o : HO} (w : TabsK K F H) (h : H p = .none) (n : noTb o) : TabsK K (upd F p o) (upd H p o) :=
  w.ext (fun q hq e => by
    obtain ⟨ps, h1, _⟩ := w.tab q hq
    rw [upd_ne (ne_of_none h1 h)]
    exact e) (fun b u q _ => by rw [upd_ne (ne_of_none q h)]; exact q) (fun b u q => by
    by_cases hb : b = p
    · subst hb; rw [upd_same] at q; cases q; exact n
    · rw [upd_ne hb] at q; exact w.no b u q) (upd_tb n)
theorem TabsK.own {K : PySem.W.Frag} {F H : Hp} {p : Addr} {o : HO} (w : TabsK K F H) (h : H p = .none) (n : noTb o) : TabsK K F (upd H p o) :=
  w.ext (fun _ _ e => e) (fun b u q _ => by rw [upd_ne (ne_of_none q h)]; exact q) w.no (upd_tb n)
/-- a list that is changed -/
theorem TabsK.chg {K : PySem.W.Frag} {F H : Hp} {p : Addr} {xs : List V} {o : HO} (w : TabsK K F H) (h : H p = some (.lst xs)) (n : noTb o := by exact fun _ z => nomatch z) : TabsK K F (upd H p o) :=
  w.ext (fun _ _ e => e) (fun b u q m => by
    rw [upd_ne (fun z => by
      rw [z, h] at q
      cases q
      rcases m with ⟨_, m⟩ | ⟨_, m⟩
      · cases m
      · unfold LamX.CodeO at m; cases m)]
    exact q) w.no (upd_tb n)
/-- a list of one's own is a value from now on -/
theorem TabsK.frz {K : PySem.W.Frag} {F H : Hp} {p : Addr} {xs : List V} (w : TabsK K F H) (h : H p = some (.lst xs)) : TabsK K (upd F p (.lst xs)) H :=
  w.ext (fun q hq e => by
    obtain ⟨ps, h1, _⟩ := w.tab q hq
    rw [upd_ne (fun z => by rw [z, h] at h1; cases h1)]
    exact e) (fun _ _ q _ => q) (fun b u q => by
    by_cases hb : b = p
    · subst hb; rw [upd_same] at q; cases q; exact fun _ z => nomatch z
    · rw [upd_ne hb] at q; exact w.no b u q) fun _ _ q => q
structure Wt (K : PySem.W.Frag) (T : Tk) (t : Option Addr) (F H : Hp) : Prop where
  sub : Same F H
  tank : ∀ a, t = some a → F a = none ∧ ∃ vs, H a = some (.lst vs) ∧ RepL K F T vs
  tabs : TabsK K F H
structure Grow (t : Option Addr) (F H F' H' : Hp) : Prop where
  sub : Same F F'
  keepT : ∀ a o, H a = some o → t ≠ some a → noTb o → H' a = some o
  new : ∀ a o, H a = some o → F a = none → F' a = none
  there : ∀ a o, H a = some o → ∃ o', H' a = some o'
theorem Grow.keep {t : Option Addr} {F H F' H' : Hp} (g : Grow t F H F' H') (a : Addr) (o : HO) (h : H a = some o) (n : t ≠ some a) (z : noTb o := by exact fun _ z => nomatch z) : H' a = some o := g.keepT a o h n z
theorem Grow.refl (t : Option Addr) (F H : Hp) : Grow t F H F H := ⟨Same.refl _, fun _ _ h _ _ => h, fun _ _ _ h => h, fun _ o h => ⟨o, h⟩⟩
theorem Grow.trans {t : Option Addr} {F H F1 H1 F2 H2 : Hp} (a : Grow t F H F1 H1) (b : Grow t F1 H1 F2 H2) : Grow t F H F2 H2 :=
  ⟨a.sub.trans b.sub, fun c o h n z => b.keep c o (a.keep c o h n z) n z, fun c o h n => let ⟨o', h'⟩ := a.there c o h; b.new c o' h' (a.new c o h n),
    fun c o h => let ⟨o', h'⟩ := a.there c o h; b.there c o' h'⟩

def SlotR (K : PySem.W.Frag) (t : Option Addr) (F H : Hp) : SV → V → Prop
  | .val d, v => Rep K F d v
  | .own xs, v => ∃ l vs, v = .ref l ∧ F l = none ∧ H l = some (.lst vs) ∧ RepL K F xs vs ∧ t ≠ some l
  | .tank, v => ∃ a, t = some a ∧ v = .ref a
  | .exc a g, v => v = .ref a ∧ ∀ dd fl x, g = some (dd, fl, x) → t ≠ some dd ∧ ∃ u, H dd = some (.xd [(fl, u)]) ∧ Rep K F x u
  | .fn f c q, v => v = .ref f ∧ H c = some (LamX.CodeO c q) ∧ t ≠ some c
  | .ptup ds, v => ∃ a o vs, v = .ref a ∧ F a = some (.frz o (.tup vs)) ∧ o.cls = .type "tuple" ∧ o.dict = none ∧ RepL K F ds vs
structure Wd (K : PySem.W.Frag) (ρ : En) (T : Tk) (t : Option Addr) (σ : L2.St) (F H : Hp) : Prop where
  wt : Wt K T t F H
  len : ρ.length = σ.length
  slot : ∀ (i : Nat) s, ρ[i]? = some (some s) → ∃ v, σ[i]? = some (some v) ∧ SlotR K t F H s v
  apart : ∀ (i j : Nat) xs ys l, ρ[i]? = some (some (.own xs)) → ρ[j]? = some (some (.own ys)) → σ[i]? = some (some (.ref l)) → σ[j]? = some (some (.ref l)) → i = j
theorem SlotR.grow {K : PySem.W.Frag} {t : Option Addr} {F H F' H' : Hp} (g : Grow t F H F' H') : ∀ {s : SV} {v : V}, SlotR K t F H s v → SlotR K t F' H' s v
  | .val _, _, h => Rep.mono g.sub h
  | .own _, _, ⟨l, vs, e, n, h, r, ne⟩ => ⟨l, vs, e, g.new _ _ h n, g.keep _ _ h ne, r.mono g.sub, ne⟩
  | .tank, _, h => h
  | .exc _ _, _, ⟨e, h⟩ => ⟨e, fun dd fl x q => let ⟨n, u, h1, r⟩ := h dd fl x q; ⟨n, u, g.keep _ _ h1 n, r.mono g.sub⟩⟩
  | .fn _ _ _, _, ⟨e, h, n⟩ => ⟨e, g.keepT _ _ h n (fun _ z => LamX.codeO_ne _ z), n⟩
  | .ptup _, _, ⟨a, o, vs, e, h, c1, c2, r⟩ => ⟨a, o, vs, e, g.sub _ _ h, c1, c2, r.mono g.sub⟩
theorem Wd.grow {K : PySem.W.Frag} {ρ : En} {T T' : Tk} {t : Option Addr} {σ : L2.St} {F H F' H' : Hp} (w : Wd K ρ T t σ F H) (g : Grow t F H F' H') (w' : Wt K T' t F' H') : Wd K ρ T' t σ F' H' :=
  ⟨w', w.len, fun i s e => let ⟨v, h1, h2⟩ := w.slot i s e; ⟨v, h1, h2.grow g⟩, w.apart⟩

/-! readings -/
def Fin (K : PySem.W.Frag) (t : Option Addr) (F H : Hp) (k : KD) (Q : VK) : Prop := ∀ v H' F' d T', Wt K T' t F' H' → Grow t F H F' H' → Rep K F' d v → k d T' → Q v H'
def tD (K : PySem.W.Frag) (f : dE) : TE := fun σ H Q => ∃ ρ T t F k, Wd K ρ T t σ F H ∧ f ρ T k ∧ Fin K t F H k Q
def tDT (K : PySem.W.Frag) (f : dT) : TT := fun σ H Q => ∃ ρ T t F k, Wd K ρ T t σ F H ∧ f ρ T k ∧ ∀ b H' F' T', Wt K T' t F' H' → Grow t F H F' H' → k b T' → Q b H'
inductive ArgL (K : PySem.W.Frag) (t : Option Addr) (F : Hp) : List SV → List V → Prop
  | nil : ArgL K t F [] []
  | val {d : D} {v : V} {as : List SV} {vs : List V} : Rep K F d v → ArgL K t F as vs → ArgL K t F (.val d :: as) (v :: vs)
  | tank {a : Addr} {as : List SV} {vs : List V} : t = some a → ArgL K t F as vs → ArgL K t F (.tank :: as) (.ref a :: vs)
theorem ArgL.mono {K : PySem.W.Frag} {t : Option Addr} {F F' : Hp} (e : Same F F') : ∀ {as : List SV} {vs : List V}, ArgL K t F as vs → ArgL K t F' as vs
  | _, _, .nil => .nil
  | _, _, .val r q => .val (r.mono e) (q.mono e)
  | _, _, .tank h q => .tank h (q.mono e)
theorem ArgL.len {K : PySem.W.Frag} {t : Option Addr} {F : Hp} : ∀ {as : List SV} {vs : List V}, ArgL K t F as vs → as.length = vs.length
  | _, _, .nil => rfl
  | _, _, .val _ q => by simp [q.len]
  | _, _, .tank _ q => by simp [q.len]
def tDA (K : PySem.W.Frag) (f : dA) : TA := fun σ H Q => ∃ ρ T t F k, Wd K ρ T t σ F H ∧ f ρ T k ∧ ∀ vs H' F' as T', Wt K T' t F' H' → Grow t F H F' H' → ArgL K t F' as vs → k as T' → Q vs H'
abbrev PEd (X : Cx) (e : Expr) (f : dE) : Prop := PE X e (tD X.K f)
abbrev PTd (X : Cx) (e : Expr) (f : dT) : Prop := PT X e (tDT X.K f)
abbrev PAd (X : Cx) (es : List Expr) (f : dA) : Prop := PA X es (tDA X.K f)
theorem pe_imp {X : Cx} {e : Expr} {t u : TE} (h : PE X e t) (i : ∀ σ H Q, u σ H Q → t σ H Q) : PE X e u := ⟨fun pins s σ H Q I q => h.run pins s σ H Q I (i _ _ _ q)⟩
theorem pt_imp {X : Cx} {e : Expr} {t u : TT} (h : PT X e t) (i : ∀ σ H Q, u σ H Q → t σ H Q) : PT X e u := ⟨fun pins s σ H Q I q => h.run pins s σ H Q I (i _ _ _ q)⟩
theorem pw_imp {X : Cx} {e : Expr} {t u : TT} (h : PW X e t) (i : ∀ σ H Q, u σ H Q → t σ H Q) : PW X e u := ⟨fun wh pins s σ H Q I q => h.run wh pins s σ H Q I (i _ _ _ q)⟩
theorem pa_imp {X : Cx} {e : List Expr} {t u : TA} (h : PA X e t) (i : ∀ σ H Q, u σ H Q → t σ H Q) : PA X e u := ⟨fun pos pins s σ H Q I q => h.run pos pins s σ H Q I (i _ _ _ q)⟩
theorem ps_imp {X : Cx} {e : Stmt} {t u : TS} (h : PS X e t) (i : ∀ K σ H, u K σ H → t K σ H) : PS X e u := ⟨fun pins s σ H K I q => h.run pins s σ H K I (i _ _ _ q)⟩
theorem pss_imp {X : Cx} {e : List Stmt} {t u : TS} (h : PSs X e t) (i : ∀ K σ H, u K σ H → t K σ H) : PSs X e u := ⟨fun pins s σ H K I q => h.run pins s σ H K I (i _ _ _ q)⟩

theorem Fin.then {K : PySem.W.Frag} {t : Option Addr} {F H F' H' : Hp} {k : KD} {Q : VK} (f : Fin K t F H k Q) (g : Grow t F H F' H') : Fin K t F' H' k Q :=
  fun v H2 F2 d T2 w g2 r q => f v H2 F2 d T2 w (g.trans g2) r q
/-- a value that needs nothing new -/
theorem Fin.val {K : PySem.W.Frag} {t : Option Addr} {F H : Hp} {k : KD} {Q : VK} {T : Tk} {d : D} {v : V} (f : Fin K t F H k Q) (w : Wt K T t F H) (r : Rep K F d v) (q : k d T) : Q v H :=
  f v H F d T w (Grow.refl _ _ _) r q
theorem same_upd {F : Hp} {p : Addr} {o : HO} (h : F p = none) : Same F (upd F p o) := fun b u e => by rw [upd_ne (ne_of_none e h)]; exact e
theorem grow_new {t : Option Addr} {F H : Hp} {p : Addr} {o : HO} (s : Same F H) (h : H p = none) : Grow t F H (upd F p o) (upd H p o) := by
  have hF : F p = none := s.free h
  refine ⟨same_upd hF, fun a u e _ _ => same_upd h a u e, fun a u e n => ?_, fun a u e => ⟨u, same_upd h a u e⟩⟩
  rw [upd_ne (ne_of_none e h)]
  exact n
theorem grow_own {t : Option Addr} {F H : Hp} {p : Addr} {o : HO} (s : Same F H) (h : H p = none) : Grow t F H F (upd H p o) :=
  ⟨Same.refl _, fun a u e _ _ => same_upd h a u e, fun _ _ _ n => n, fun a u e => ⟨u, same_upd h a u e⟩⟩
theorem same_both {F H : Hp} {p : Addr} {o : HO} (s : Same F H) : Same (upd F p o) (upd H p o) := fun b u e => by
  by_cases hb : b = p
  · subst hb; rw [upd_same] at e ⊢; exact e
  · rw [upd_ne hb] at e ⊢; exact s b u e
theorem wt_new {K : PySem.W.Frag} {T : Tk} {t : Option Addr} {F H : Hp} {p : Addr} {o : HO} (w : Wt K T t F H) (h : H p = none) (nt : noTb o := by exact fun _ z => nomatch z) : Wt K T t (upd F p o) (upd H p o) := by
  refine ⟨same_both w.sub, fun a e => ?_, w.tabs.new h nt⟩
  obtain ⟨n, vs, hv, r⟩ := w.tank a e
  have na : a ≠ p := ne_of_none hv h
  exact ⟨by rw [upd_ne na]; exact n, vs, by rw [upd_ne na]; exact hv, r.mono (same_upd (w.sub.free h))⟩
theorem wt_own {K : PySem.W.Frag} {T : Tk} {t : Option Addr} {F H : Hp} {p : Addr} {o : HO} (w : Wt K T t F H) (h : H p = none) (nt : noTb o := by exact fun _ z => nomatch z) : Wt K T t F (upd H p o) := by
  refine ⟨w.sub.trans (same_upd h), fun a e => ?_, w.tabs.own h nt⟩
  obtain ⟨n, vs, hv, r⟩ := w.tank a e
  exact ⟨n, vs, same_upd h a _ hv, r⟩
theorem Fin.tup {K : PySem.W.Frag} {t : Option Addr} {F H : Hp} {k : KD} {Q : VK} {T : Tk} {ds : List D} {vs : List V} {p : Addr} (f : Fin K t F H k Q) (w : Wt K T t F H) (r : RepL K F ds vs) (h : H p = none) (q : k (.tup ds) T) : Q (.ref p) (upd H p (.tup vs)) :=
  f _ _ (upd F p (.tup vs)) _ T (wt_new w h) (grow_new w.sub h) (.tup (.of upd_same) (r.mono (same_upd (w.sub.free h)))) q
theorem Fin.lst {K : PySem.W.Frag} {t : Option Addr} {F H : Hp} {k : KD} {Q : VK} {T : Tk} {ds : List D} {vs : List V} {p : Addr} (f : Fin K t F H k Q) (w : Wt K T t F H) (r : RepL K F ds vs) (h : H p = none) (q : k (.lst ds) T) : Q (.ref p) (upd H p (.lst vs)) :=
  f _ _ (upd F p (.lst vs)) _ T (wt_new w h) (grow_new w.sub h) (.lst upd_same (r.mono (same_upd (w.sub.free h)))) q
theorem rep_int {K : PySem.W.Frag} {F : Hp} {i : Int} {v : V} (r : Rep K F (.int i) v) : v = .int i := by cases r; rfl
theorem rep_bl {K : PySem.W.Frag} {F : Hp} {i : Bool} {v : V} (r : Rep K F (.bl i) v) : v = .bl i := by cases r; rfl
theorem rep_tup {K : PySem.W.Frag} {F : Hp} {ds : List D} {v : V} (r : Rep K F (.tup ds) v) : ∃ a vs, v = .ref a ∧ SqT K F a vs ∧ RepL K F ds vs := by cases r with | tup h q => exact ⟨_, _, rfl, h, q⟩
theorem rep_lst {K : PySem.W.Frag} {F : Hp} {ds : List D} {v : V} (r : Rep K F (.lst ds) v) : ∃ a vs, v = .ref a ∧ F a = some (.lst vs) ∧ RepL K F ds vs := by cases r with | lst h q => exact ⟨_, _, rfl, h, q⟩
theorem rep_scr {K : PySem.W.Frag} {F : Hp} {ds : List D} {v : V} (r : Rep K F (.scr ds) v) : ∃ a vs, v = .ref a ∧ SqL K F a vs ∧ RepL K F ds vs := by cases r with | scr h q => exact ⟨_, _, rfl, h, q⟩
end L2.G

namespace L2.G
open PySem PySem.Spec PyProof.Rows

section
variable {X : Cx}
/-! names, constants -/
def dVar (i : Nat) : dE := fun ρ T k => match ρ[i]? with | some (some (.val d)) => k d T | some (some (.ptup ds)) => k (.tup ds) T | _ => False
theorem d_var (i : Nat) {x : Str} {pos : Pos} (hN : X.N[i]? = some x := by rfl) (hv : Vis X.env.scope x := by first | exact Or.inl rfl | exact Or.inr (Or.inl rfl) | exact Or.inr (Or.inr rfl))
    (hd : (x == ("__debug__" : Str)) = false := by decide) (hc : (x == ("__classdict__" : Str)) = false := by decide) : PEd X (.Name x pos) (dVar i) := by
  refine pe_imp (pe_var hN hv hd hc) fun σ H Q h => ?_
  obtain ⟨ρ, T, t, F, k, w, h, f⟩ := h
  unfold dVar at h
  split at h
  · rename_i d e
    obtain ⟨v, e1, r⟩ := w.slot i _ e
    exact ⟨v, e1, f.val w.wt r h⟩
  · rename_i ds e
    obtain ⟨v, e1, a, o, vs, ev, hF, _, _, r⟩ := w.slot i _ e
    subst ev
    exact ⟨_, e1, f.val w.wt (.tup (.inl (.inr ⟨o, hF⟩)) r) h⟩
  · exact h.elim
def dC (d : D) : dE := fun _ T k => k d T
theorem d_const {e : Expr} {v : V} {d : D} (h : PE X e (tC v)) (r : ∀ F, Rep X.K F d v) : PEd X e (dC d) := by
  refine pe_imp h fun σ H Q h => ?_
  obtain ⟨ρ, T, t, F, k, w, h, f⟩ := h
  exact f.val w.wt (r F) h
theorem d_int {i : Int} {j pos} : PEd X (.Constant (.int i) j pos) (dC (.int i)) := d_const pe_int fun _ => .int i
theorem d_bl {i : Bool} {j pos} : PEd X (.Constant (.bool i) j pos) (dC (.bl i)) := d_const pe_bl fun _ => .bl i
theorem d_non {j pos} : PEd X (.Constant .none j pos) (dC .non) := d_const pe_non fun _ => .non
/-- a constant of the module -/
theorem d_glob {x : Str} {v : V} {u : Value} {d : D} {pos : Pos} (hg : Gl X x) (hm : X.mg x = some u) (q : RelV v u) (r : ∀ F, Rep X.K F d v) (hd : (x == ("__debug__" : Str)) = false := by decide) : PEd X (.Name x pos) (dC d) :=
  d_const (pe_glob hg hm q hd) r

/-! two places -/
abbrev Op2 := D → D → (D → Prop) → Prop
def dOp (o : Op2) (fa fb : dE) : dE := fun ρ T k => fa ρ T fun x T1 => fb ρ T1 fun y T2 => o x y fun d => k d T2
def OpS (K : PySem.W.Frag) (r : R2) (o : Op2) : Prop := ∀ {t : Option Addr} {F H : Hp} {T : Tk} {x y : D} {v w : V} {k : KD} {Q : VK}, Wt K T t F H → Rep K F x v → Rep K F y w → o x y (fun d => k d T) → Fin K t F H k Q → r v w H Q
/-- two expressions, one behind the other -/
theorem two {K : PySem.W.Frag} {fa fb : dE} {o : D → D → Tk → KD → Prop} {σ : L2.St} {H : Hp} {Q : VK} {R : V → V → Hp → VK → Prop}
    (s : ∀ {t : Option Addr} {F H : Hp} {T : Tk} {x y : D} {v w : V} {k : KD}, Wt K T t F H → Rep K F x v → Rep K F y w → o x y T k → Fin K t F H k Q → R v w H Q)
    (h : tD K (fun ρ T k => fa ρ T fun x T1 => fb ρ T1 fun y T2 => o x y T2 k) σ H Q) : tD K fa σ H fun v H1 => tD K fb σ H1 fun w H2 => R v w H2 Q := by
  obtain ⟨ρ, T, t, F, k, w, h, f⟩ := h
  refine ⟨ρ, T, t, F, _, w, h, fun v H1 F1 x T1 w1 g1 r1 h1 => ?_⟩
  refine ⟨ρ, T1, t, F1, _, w.grow g1 w1, h1, fun u H2 F2 y T2 w2 g2 r2 h2 => ?_⟩
  exact s w2 (r1.mono g2.sub) r2 h2 (f.then (g1.trans g2))
theorem d_op {op : Operator} {r : R2} {o : Op2} {a b : Expr} {fa fb : dE} {pos : Pos} (ho : OpR X (binaryOp op) r) (s : OpS X.K r o) (ha : PEd X a fa) (hb : PEd X b fb) : PEd X (.BinOp a op b pos) (dOp o fa fb) :=
  pe_imp (pe_op ho ha hb) fun σ H Q h => two (o := fun x y T k => o x y fun d => k d T) (fun w r1 r2 q f => s w r1 r2 q f) h
theorem d_cmp {op : CmpOp} {r : R2} {o : Op2} {a b : Expr} {fa fb : dE} {pos : Pos} (ho : OpR X (compareOp op) r) (s : OpS X.K r o) (ha : PEd X a fa) (hb : PEd X b fb) (hm : behindInMarks op b = false) : PEd X (.Compare a [op] [b] pos) (dOp o fa fb) :=
  pe_imp (pe_cmpR ho ha hb hm) fun σ H Q h => two (o := fun x y T k => o x y fun d => k d T) (fun w r1 r2 q f => s w r1 r2 q f) h

/-- ints -/
def oI (g : Int → Int → Int) : Op2 := fun x y k => match x, y with | .int i, .int j => k (.int (g i j)) | _, _ => False
def oIC (C : Int → Int → Prop) (g : Int → Int → Int) : Op2 := fun x y k => match x, y with | .int i, .int j => C i j ∧ k (.int (g i j)) | _, _ => False
def oB (g : Int → Int → Bool) : Op2 := fun x y k => match x, y with | .int i, .int j => k (.bl (g i j)) | _, _ => False
theorem oI_ok {K : PySem.W.Frag} {g : Int → Int → Int} : OpS K (rI0 fun i j => .int (g i j)) (oI g) := by
  intro t F H T x y v w k Q wt r1 r2 q f
  unfold oI at q
  split at q
  · cases r1; cases r2; exact ⟨_, _, rfl, rfl, f.val wt (.int _) q⟩
  · exact q.elim
theorem oIC_ok {K : PySem.W.Frag} {C : Int → Int → Prop} {g : Int → Int → Int} : OpS K (rI C fun i j => .int (g i j)) (oIC C g) := by
  intro t F H T x y v w k Q wt r1 r2 q f
  unfold oIC at q
  split at q
  · cases r1; cases r2; exact ⟨_, _, rfl, rfl, q.1, f.val wt (.int _) q.2⟩
  · exact q.elim
theorem oB_ok {K : PySem.W.Frag} {g : Int → Int → Bool} : OpS K (rI0 fun i j => .bl (g i j)) (oB g) := by
  intro t F H T x y v w k Q wt r1 r2 q f
  unfold oB at q
  split at q
  · cases r1; cases r2; exact ⟨_, _, rfl, rfl, f.val wt (.bl _) q⟩
  · exact q.elim
/-- sizes -/
def MulOk (i j : Int) : Prop := (i.natAbs < 2 ^ 64 ∨ j.natAbs < 2 ^ 64) ∨ (i.natAbs < 2 ^ 400000 ∧ j.natAbs < 2 ^ 400000)
def DivOk (_ j : Int) : Prop := 0 < j ∧ j.natAbs < 2 ^ 9000
theorem mulQ_of {i j : Int} (h : MulOk i j) : IntMulOk i j := by
  rcases h with h | h
  · exact CMul.ok (h.elim (fun h => .inl (by omega)) fun h => .inr (by omega))
  · exact (wide_mul h.1 h.2 (by decide) (by decide) (by decide)).ok
theorem divW_of {i j : Int} (h : DivOk i j) : CDivW i j := wide_div h.1 h.2 (by decide) (by decide)
theorem op_mulQ : OpR X (binaryOp .Mult) (rI MulOk fun i j => .int (i * j)) := opI fun _ _ _ _ _ _ _ hc q => mul_int q (mulQ_of hc)
theorem op_divQ : OpR X (binaryOp .FloorDiv) (rI DivOk fun i j => .int (i / j)) := fun pins s σ H x y v u Q I rx ry ⟨i, j, e1, e2, c, q⟩ => op_fdivW pins s σ H x y v u Q I rx ry ⟨i, j, e1, e2, divW_of c, q⟩
variable {a b : Expr} {fa fb : dE} {pos : Pos}
/-- -a -/
def dNeg (fa : dE) : dE := fun ρ T k => fa ρ T fun x T1 => match x with | .int i => k (.int (-i)) T1 | _ => False
theorem d_neg (ha : PEd X a fa) : PEd X (.UnaryOp .USub a pos) (dNeg fa) := by
  refine pe_imp (pe_un un_neg ha) fun σ H Q h => ?_
  obtain ⟨ρ, T, t, F, k, w, h, f⟩ := h
  refine ⟨ρ, T, t, F, _, w, h, fun v H1 F1 x T1 w1 g1 r1 h1 => ?_⟩
  split at h1
  · cases r1; exact ⟨_, rfl, (f.then g1).val w1 (.int _) h1⟩
  · exact h1.elim

/-! equality of data -/
mutual
def D.py : D → PyData
  | .non => .none | .bl b => .bool b | .int i => .int i | .str x => .str x | .tup xs => .tuple (D.pyL xs) | .lst xs => .list (D.pyL xs) | .obj _ _ _ => .dict [] | .ref _ => .dict [] | .scr _ => .dict [] | .dct _ _ => .dict []
def D.pyL : List D → List PyData
  | [] => [] | x :: r => x.py :: D.pyL r
end
mutual
def D.isPy : D → Bool
  | .non => true | .bl _ => true | .int _ => true | .str _ => true | .tup xs => D.isPyL xs | .lst xs => D.isPyL xs | .obj _ _ _ => false | .ref _ => false | .scr _ => false | .dct _ _ => false
def D.isPyL : List D → Bool
  | [] => true | x :: r => x.isPy && D.isPyL r
end
mutual
theorem Rep.dp {K : PySem.W.Frag} {F H : Hp} (s : Same F H) : ∀ {d : D} {v : V}, Rep K F d v → d.isPy = true → Dp K H v d.py
  | _, _, .non, _ => .non
  | _, _, .bl b, _ => .bl b
  | _, _, .int i, _ => .int i
  | _, _, .str x, _ => .str x
  | _, _, .tup h q, p => .tup (same_t s h) (RepL.dp s q (by simpa [D.isPy] using p))
  | _, _, .lst h q, p => .lst (.of (s _ _ h)) (RepL.dp s q (by simpa [D.isPy] using p))
  | _, _, .obj _ _ _, p => by simp [D.isPy] at p
  | _, _, .ref _ _, p => by simp [D.isPy] at p
  | _, _, .scr _ _, p => by simp [D.isPy] at p
  | _, _, .dct _ _ _, p => by simp [D.isPy] at p
theorem RepL.dp {K : PySem.W.Frag} {F H : Hp} (s : Same F H) : ∀ {ds : List D} {vs : List V}, RepL K F ds vs → D.isPyL ds = true → DpAll K H vs (D.pyL ds)
  | _, _, .nil, _ => .nil
  | _, _, .cons h q, p => by
    simp only [D.isPyL, Bool.and_eq_true] at p
    exact .cons (Rep.dp s h p.1) (RepL.dp s q p.2)
end
/-- data that == compares -/
def D.eqOk (d : D) : Prop := d.isPy = true ∧ SeqAt.shaped d.py = true
def eqD (x y : D) : Bool := PyData.eqv x.py y.py
def oEq : Op2 := fun x y k => x.eqOk ∧ y.eqOk ∧ k (.bl (eqD x y))
def oNe : Op2 := fun x y k => x.eqOk ∧ y.eqOk ∧ k (.bl (!eqD x y))
theorem oEq_ok {K : PySem.W.Frag} : OpS K (rEqD K) oEq := fun wt r1 r2 ⟨p1, p2, q⟩ f => ⟨_, _, r1.dp wt.sub p1.1, r2.dp wt.sub p2.1, p1.2, p2.2, f.val wt (.bl _) q⟩
theorem oNe_ok {K : PySem.W.Frag} : OpS K (rNeD K) oNe := fun wt r1 r2 ⟨p1, p2, q⟩ f => ⟨_, _, r1.dp wt.sub p1.1, r2.dp wt.sub p2.1, p1.2, p2.2, f.val wt (.bl _) q⟩
/-- == of two ints, two texts, None .. (scalars) -/
def oEqI : Op2 := fun x y k => match x, y with | .int i, .int j => k (.bl (decide (i = j))) | .str i, .str j => k (.bl (decide (i = j))) | .bl i, .bl j => k (.bl (decide (i = j))) | _, _ => False
def oNeI : Op2 := fun x y k => match x, y with | .int i, .int j => k (.bl (!decide (i = j))) | .str i, .str j => k (.bl (!decide (i = j))) | .bl i, .bl j => k (.bl (!decide (i = j))) | _, _ => False
theorem oEqI_ok {K : PySem.W.Frag} : OpS K rEq oEqI := by
  intro t F H T x y v w k Q wt r1 r2 q f
  unfold oEqI at q
  split at q
  · cases r1; cases r2; exact ⟨rfl, by have := f.val wt (.bl _) q; simpa using this⟩
  · cases r1; cases r2; exact ⟨rfl, by have := f.val wt (.bl _) q; simpa using this⟩
  · cases r1; cases r2; exact ⟨rfl, by have := f.val wt (.bl _) q; simpa using this⟩
  · exact q.elim
theorem oNeI_ok {K : PySem.W.Frag} : OpS K rNe oNeI := by
  intro t F H T x y v w k Q wt r1 r2 q f
  unfold oNeI at q
  split at q
  · cases r1; cases r2; exact ⟨rfl, by have := f.val wt (.bl _) q; simpa using this⟩
  · cases r1; cases r2; exact ⟨rfl, by have := f.val wt (.bl _) q; simpa using this⟩
  · cases r1; cases r2; exact ⟨rfl, by have := f.val wt (.bl _) q; simpa using this⟩
  · exact q.elim
/-- is None -/
def D.isNon : D → Bool | .non => true | _ => false
theorem rep_isNon {K : PySem.W.Frag} {F : Hp} {d : D} {v : V} (r : Rep K F d v) : decide (v = .non) = d.isNon := by cases r <;> rfl
def dIsN (fa : dE) : dE := fun ρ T k => fa ρ T fun x T1 => k (.bl x.isNon) T1
def dNotN (fa : dE) : dE := fun ρ T k => fa ρ T fun x T1 => k (.bl (!x.isNon)) T1
/-! tests -/
def dTst (fa : dE) : dT := fun ρ T k => fa ρ T fun x T1 => match x with | .bl c => k c T1 | _ => False
theorem d_tst (ha : PEd X a fa) (he : ∀ whole, isTrue a X.env whole = (do let v ← whole; standAt a.pos; holding [v] (truthy v)) := by intro _; rfl) : PTd X a (dTst fa) := by
  refine pt_imp (pt_val ha he) fun σ H Q h => ?_
  obtain ⟨ρ, T, t, F, k, w, h, f⟩ := h
  refine ⟨ρ, T, t, F, _, w, h, fun v H1 F1 x T1 w1 g1 r1 h1 => ?_⟩
  split at h1
  · cases r1; exact ⟨_, rfl, f _ _ _ _ w1 g1 h1⟩
  · exact h1.elim
/-- a comparison of two, as a test -/
theorem d_tcmp {op : CmpOp} {r : R2} {o : Op2} (ho : OpR X (compareOp op) r) (s : OpS X.K r o) (ha : PEd X a fa) (hb : PEd X b fb) (hm : behindInMarks op b = false) : PTd X (.Compare a [op] [b] pos) (dTst (dOp o fa fb)) := by
  refine pt_imp (pt_cmpR ho ha hb hm) fun σ H Q h => ?_
  obtain ⟨ρ, T, t, F, k, w, h, f⟩ := h
  have h' : tD X.K (dOp o fa fb) σ H (fun x H' => ∃ c, x = .bl c ∧ Q c H') := by
    refine ⟨ρ, T, t, F, _, w, h, fun v H1 F1 x T1 w1 g1 r1 h1 => ?_⟩
    split at h1
    · cases r1; exact ⟨_, rfl, f _ _ _ _ w1 g1 h1⟩
    · exact h1.elim
  exact two (o := fun x y T k => o x y fun d => k d T) (fun w r1 r2 q f => s w r1 r2 q f) h'
abbrev PWd (X : Cx) (e : Expr) (f : dT) : Prop := PW X e (tDT X.K f)
variable {ta tb : dT} {rest : List Expr}
def dAnd (ta tb : dT) : dT := fun ρ T k => ta ρ T fun c T1 => if c = true then tb ρ T1 k else k false T1
def dOr (ta tb : dT) : dT := fun ρ T k => ta ρ T fun c T1 => if c = true then k true T1 else tb ρ T1 k
def dNot (ta : dT) : dT := fun ρ T k => ta ρ T fun c T1 => k (!c) T1
theorem d_tnot (ha : PTd X a ta) : PTd X (.UnaryOp .Not a pos) (dNot ta) := by
  refine pt_imp (pt_not ha) fun σ H Q h => ?_
  obtain ⟨ρ, T, t, F, k, w, h, f⟩ := h
  exact ⟨ρ, T, t, F, _, w, h, fun v H1 F1 T1 w1 g1 h1 => f _ _ _ _ w1 g1 h1⟩
theorem d_w1a (ha : PTd X a ta) : PWd X (.BoolOp .And [a] pos) ta := pw_and1 ha
theorem d_w1o (ha : PTd X a ta) : PWd X (.BoolOp .Or [a] pos) ta := pw_or1 ha
theorem d_wand (ha : PTd X a ta) (hb : PWd X (.BoolOp .And (b :: rest) pos) tb) : PWd X (.BoolOp .And (a :: b :: rest) pos) (dAnd ta tb) := by
  refine pw_imp (pw_and ha hb) fun σ H Q h => ?_
  obtain ⟨ρ, T, t, F, k, w, h, f⟩ := h
  refine ⟨ρ, T, t, F, _, w, h, fun c H1 F1 T1 w1 g1 h1 => ?_⟩
  cases c with
  | true => exact ⟨ρ, T1, t, F1, k, w.grow g1 w1, h1, fun b H2 F2 T2 w2 g2 h2 => f _ _ _ _ w2 (g1.trans g2) h2⟩
  | false => exact f _ _ _ _ w1 g1 h1
theorem d_wor (ha : PTd X a ta) (hb : PWd X (.BoolOp .Or (b :: rest) pos) tb) : PWd X (.BoolOp .Or (a :: b :: rest) pos) (dOr ta tb) := by
  refine pw_imp (pw_or ha hb) fun σ H Q h => ?_
  obtain ⟨ρ, T, t, F, k, w, h, f⟩ := h
  refine ⟨ρ, T, t, F, _, w, h, fun c H1 F1 T1 w1 g1 h1 => ?_⟩
  cases c with
  | false => exact ⟨ρ, T1, t, F1, k, w.grow g1 w1, h1, fun b H2 F2 T2 w2 g2 h2 => f _ _ _ _ w2 (g1.trans g2) h2⟩
  | true => exact f _ _ _ _ w1 g1 h1
/-- and, or, not as values of truth -/
def dAndV (fa fb : dE) : dE := fun ρ T k => fa ρ T fun x T1 => match x with | .bl c => if c = true then fb ρ T1 k else k (.bl false) T1 | _ => False
def dOrV (fa fb : dE) : dE := fun ρ T k => fa ρ T fun x T1 => match x with | .bl c => if c = true then k (.bl true) T1 else fb ρ T1 k | _ => False
def dNotV (fa : dE) : dE := fun ρ T k => fa ρ T fun x T1 => match x with | .bl c => k (.bl (!c)) T1 | _ => False
theorem d_v1 {op} (ha : PEd X a fa) : PEd X (.BoolOp op [a] pos) fa := pe_one ha
theorem d_andV (ha : PEd X a fa) (hb : PEd X (.BoolOp .And (b :: rest) pos) fb) : PEd X (.BoolOp .And (a :: b :: rest) pos) (dAndV fa fb) := by
  refine pe_imp (pe_and ha hb) fun σ H Q h => ?_
  obtain ⟨ρ, T, t, F, k, w, h, f⟩ := h
  refine ⟨ρ, T, t, F, _, w, h, fun v H1 F1 x T1 w1 g1 r1 h1 => ?_⟩
  split at h1
  · rename_i c
    cases r1
    refine ⟨c, rfl, ?_⟩
    cases c with
    | true => exact ⟨ρ, T1, t, F1, k, w.grow g1 w1, h1, f.then g1⟩
    | false => exact (f.then g1).val w1 (.bl _) h1
  · exact h1.elim
theorem d_notV (ha : PEd X a fa) : PEd X (.UnaryOp .Not a pos) (dNotV fa) := by
  refine pe_imp (pe_not ha) fun σ H Q h => ?_
  obtain ⟨ρ, T, t, F, k, w, h, f⟩ := h
  refine ⟨ρ, T, t, F, _, w, h, fun v H1 F1 x T1 w1 g1 r1 h1 => ?_⟩
  split at h1
  · cases r1; exact ⟨_, rfl, (f.then g1).val w1 (.bl _) h1⟩
  · exact h1.elim
def dIf (t : dT) (fa fb : dE) : dE := fun ρ T k => t ρ T fun c T1 => if c = true then fa ρ T1 k else fb ρ T1 k
theorem d_if {c : Expr} {tc : dT} (hc : PTd X c tc) (ha : PEd X a fa) (hb : PEd X b fb) : PEd X (.IfExp c a b pos) (dIf tc fa fb) := by
  refine pe_imp (pe_ifExp hc ha hb) fun σ H Q h => ?_
  obtain ⟨ρ, T, t, F, k, w, h, f⟩ := h
  refine ⟨ρ, T, t, F, _, w, h, fun c H1 F1 T1 w1 g1 h1 => ?_⟩
  cases c with
  | true => exact ⟨ρ, T1, t, F1, k, w.grow g1 w1, h1, f.then g1⟩
  | false => exact ⟨ρ, T1, t, F1, k, w.grow g1 w1, h1, f.then g1⟩

/-! arguments, displays -/
def aNil : dA := fun _ T k => k [] T
def aCons (fe : dE) (fr : dA) : dA := fun ρ T k => fe ρ T fun d T1 => fr ρ T1 fun as T2 => k (.val d :: as) T2
def aTank (i : Nat) (fr : dA) : dA := fun ρ T k => (match ρ[i]? with | some (some .tank) => True | _ => False) ∧ fr ρ T fun as T2 => k (.tank :: as) T2
variable {es : List Expr} {fr : dA}
theorem a_nil : PAd X [] aNil := by
  refine pa_imp pa_nil fun σ H Q h => ?_
  obtain ⟨ρ, T, t, F, k, w, h, f⟩ := h
  exact f _ _ _ _ _ w.wt (Grow.refl _ _ _) .nil h
theorem a_cons {e : Expr} {fe : dE} (he : PEd X e fe) (hr : PAd X es fr) (hs : starEach (e :: es) X.env = (false, eval e X.env) :: starEach es X.env := by rfl) : PAd X (e :: es) (aCons fe fr) := by
  refine pa_imp (pa_cons he hr hs) fun σ H Q h => ?_
  obtain ⟨ρ, T, t, F, k, w, h, f⟩ := h
  refine ⟨ρ, T, t, F, _, w, h, fun v H1 F1 x T1 w1 g1 r1 h1 => ?_⟩
  refine ⟨ρ, T1, t, F1, _, w.grow g1 w1, h1, fun vs H2 F2 as T2 w2 g2 r2 h2 => ?_⟩
  exact f _ _ _ _ _ w2 (g1.trans g2) (.val (r1.mono g2.sub) r2) h2
theorem a_tank (i : Nat) {x : Str} {p : Pos} (hr : PAd X es fr) (hN : X.N[i]? = some x := by rfl) (hv : Vis X.env.scope x := by first | exact Or.inl rfl | exact Or.inr (Or.inl rfl) | exact Or.inr (Or.inr rfl))
    (hd : (x == ("__debug__" : Str)) = false := by decide) (hc : (x == ("__classdict__" : Str)) = false := by decide)
    (hs : starEach (.Name x p :: es) X.env = (false, eval (.Name x p) X.env) :: starEach es X.env := by rfl) : PAd X (.Name x p :: es) (aTank i fr) := by
  refine pa_imp (pa_cons (pe_var hN hv hd hc) hr hs) fun σ H Q h => ?_
  obtain ⟨ρ, T, t, F, k, w, ⟨h0, h⟩, f⟩ := h
  split at h0
  · rename_i e
    obtain ⟨v, e1, a, e2, e3⟩ := w.slot i _ e
    subst e3
    exact ⟨_, e1, ρ, T, t, F, _, w, h, fun vs H2 F2 as T2 w2 g2 r2 h2 => f _ _ _ _ _ w2 g2 (.tank e2 r2) h2⟩
  · exact h0.elim
def vals? : List SV → Option (List D)
  | [] => some []
  | .val d :: r => (vals? r).map (d :: ·)
  | _ :: _ => none
theorem ArgL.vals {K : PySem.W.Frag} {t : Option Addr} {F : Hp} : ∀ {as : List SV} {vs : List V} {ds : List D}, ArgL K t F as vs → vals? as = some ds → RepL K F ds vs
  | _, _, _, .nil, e => by cases e; exact .nil
  | _, _, ds, .val r q, e => by
    simp only [vals?, Option.map_eq_some_iff] at e
    obtain ⟨es, h1, rfl⟩ := e
    exact .cons r (q.vals h1)
  | _, _, _, .tank _ _, e => by simp [vals?] at e
def dTup (fr : dA) : dE := fun ρ T k => fr ρ T fun as T1 => match vals? as with | some ds => ds.length ≤ 1000000 ∧ k (.tup ds) T1 | none => False
def dLst (fr : dA) : dE := fun ρ T k => fr ρ T fun as T1 => match vals? as with | some ds => ds.length ≤ 1000000 ∧ k (.lst ds) T1 | none => False
theorem small_line {n : Nat} (h : n ≤ 1000000) : n ≤ sizeLine := by rw [sizeLine_eq]; omega
theorem d_tup {x1} (h : PAd X es fr) : PEd X (.Tuple es x1 pos) (dTup fr) := by
  refine pe_imp (pe_tup h) fun σ H Q h => ?_
  obtain ⟨ρ, T, t, F, k, w, h, f⟩ := h
  refine ⟨ρ, T, t, F, _, w, h, fun vs H1 F1 as T1 w1 g1 r1 h1 => ?_⟩
  split at h1
  · rename_i ds e
    have r := r1.vals e
    exact ⟨by rw [← r.len]; exact small_line h1.1, fun p hp => (f.then g1).tup w1 r hp h1.2⟩
  · exact h1.elim
theorem d_lst (h : PAd X es fr) : PEd X (.List es pos) (dLst fr) := by
  refine pe_imp (pe_lst h) fun σ H Q h => ?_
  obtain ⟨ρ, T, t, F, k, w, h, f⟩ := h
  refine ⟨ρ, T, t, F, _, w, h, fun vs H1 F1 as T1 w1 g1 r1 h1 => ?_⟩
  split at h1
  · rename_i ds e
    have r := r1.vals e
    exact ⟨by rw [← r.len]; exact small_line h1.1, fun p hp => (f.then g1).lst w1 r hp h1.2⟩
  · exact h1.elim

/-! items, slices -/
def oIx : Op2 := fun x y k => match x, y with
  | .tup xs, .int i => (match atI xs i with | some d => k d | none => False)
  | .lst xs, .int i => (match atI xs i with | some d => k d | none => False)
  | .scr xs, .int i => (match atI xs i with | some d => k d | none => False)
  | _, _ => False
theorem atI_rep {K : PySem.W.Frag} {F : Hp} {xs : List D} {vs : List V} {i : Int} {d : D} (r : RepL K F xs vs) (h : atI xs i = some d) : ∃ v, atI vs i = some v ∧ Rep K F d v := by
  unfold atI at h ⊢
  rw [← r.len]
  cases e : ixN xs.length i with
  | none => rw [e] at h; cases h
  | some j =>
    rw [e] at h
    exact r.get h
theorem oIx_ok {K : PySem.W.Frag} : OpS K (fun x y H Q => rIxL K x y H Q ∨ rIxT K x y H Q) oIx := by
  intro t F H T x y v w k Q wt r1 r2 q f
  unfold oIx at q
  split at q
  · split at q
    · rename_i d e
      obtain ⟨a, vs, rfl, h, r⟩ := rep_tup r1
      cases r2
      obtain ⟨v, e1, rv⟩ := atI_rep r e
      exact .inr ⟨a, vs, _, v, rfl, rfl, same_t wt.sub h, e1, f.val wt rv q⟩
    · exact q.elim
  · split at q
    · rename_i d e
      obtain ⟨a, vs, rfl, h, r⟩ := rep_lst r1
      cases r2
      obtain ⟨v, e1, rv⟩ := atI_rep r e
      exact .inl ⟨a, vs, _, v, rfl, rfl, .of (wt.sub _ _ h), e1, f.val wt rv q⟩
    · exact q.elim
  · split at q
    · rename_i d e
      obtain ⟨a, vs, rfl, h, r⟩ := rep_scr r1
      cases r2
      obtain ⟨v, e1, rv⟩ := atI_rep r e
      exact .inl ⟨a, vs, _, v, rfl, rfl, wt.sub.seq h, e1, f.val wt rv q⟩
    · exact q.elim
  · exact q.elim
end
end L2.G

namespace L2.G
open PySem PySem.Spec PyProof.Rows

/-! statements: F0, H0 the entry's heaps -/
structure Ws (K : PySem.W.Frag) (ρ : En) (T : Tk) (t : Option Addr) (σ : L2.St) (F0 H0 F H : Hp) : Prop where
  w : Wd K ρ T t σ F H
  g : Grow t F0 H0 F H
  fr : ∀ (i : Nat) xs l, ρ[i]? = some (some (.own xs)) → σ[i]? = some (some (.ref l)) → H0 l = none
theorem Ws.grow {K : PySem.W.Frag} {ρ : En} {T T' : Tk} {t : Option Addr} {σ : L2.St} {F0 H0 F H F' H' : Hp} (w : Ws K ρ T t σ F0 H0 F H) (g : Grow t F H F' H') (w' : Wt K T' t F' H') : Ws K ρ T' t σ F0 H0 F' H' :=
  ⟨w.w.grow g w', w.g.trans g, w.fr⟩
def FinS (K : PySem.W.Frag) (t : Option Addr) (F0 H0 F : Hp) (k : En → Tk → Prop) (n : L2.St → Hp → Prop) : Prop := ∀ ρ T σ F' H', Ws K ρ T t σ F0 H0 F' H' → Same F F' → k ρ T → n σ H'
def FinR (K : PySem.W.Frag) (t : Option Addr) (F0 H0 : Hp) (k : KD) (n : VK) : Prop := ∀ v H F d T, Wt K T t F H → Grow t F0 H0 F H → Rep K F d v → k d T → n v H
structure FinE (K : PySem.W.Frag) (t : Option Addr) (F0 H0 F : Hp) (k : dEnds) (E : Ends) : Prop where
  nx : FinS K t F0 H0 F k.nx E.nx
  rt : FinR K t F0 H0 k.rt E.rt
  bk : FinS K t F0 H0 F k.bk E.bk
  ct : FinS K t F0 H0 F k.ct E.ct
theorem FinS.to {K : PySem.W.Frag} {t : Option Addr} {F0 H0 F F1 : Hp} {k : En → Tk → Prop} {n : L2.St → Hp → Prop} (f : FinS K t F0 H0 F k n) (s : Same F F1) : FinS K t F0 H0 F1 k n := fun ρ T σ F' H' w e q => f ρ T σ F' H' w (s.trans e) q
theorem FinE.to {K : PySem.W.Frag} {t : Option Addr} {F0 H0 F F1 : Hp} {k : dEnds} {E : Ends} (f : FinE K t F0 H0 F k E) (s : Same F F1) : FinE K t F0 H0 F1 k E := ⟨f.nx.to s, f.rt, f.bk.to s, f.ct.to s⟩
def tDS (K : PySem.W.Frag) (f : dS) : TS := fun E σ H => ∃ ρ T t F0 H0 F k, Ws K ρ T t σ F0 H0 F H ∧ f k ρ T ∧ FinE K t F0 H0 F k E
abbrev PSd (X : Cx) (st : Stmt) (f : dS) : Prop := PS X st (tDS X.K f)
abbrev PSsd (X : Cx) (st : List Stmt) (f : dS) : Prop := PSs X st (tDS X.K f)

section
variable {X : Cx} {st : Stmt} {rest : List Stmt} {f g : dS} {e : Expr} {fe : dE} {pos : Pos}
def sSeq (f g : dS) : dS := fun k ρ T => f { k with nx := g k } ρ T
theorem ss_cons (h1 : PSd X st f) (h2 : PSsd X rest g) : PSsd X (st :: rest) (sSeq f g) := by
  refine pss_imp (pss_cons h1 h2) fun E σ H h => ?_
  obtain ⟨ρ, T, t, F0, H0, F, k, w, h, fe⟩ := h
  exact ⟨ρ, T, t, F0, H0, F, _, w, h, ⟨fun ρ' T' σ' F' H' w' s' h' => ⟨ρ', T', t, F0, H0, F', k, w', h', fe.to s'⟩, fe.rt, fe.bk, fe.ct⟩⟩
theorem ss_one (h1 : PSd X st f) : PSsd X [st] f := pss_one h1
theorem ss_nil : PSsd X [] (fun k ρ T => k.nx ρ T) := by
  refine pss_imp pss_nil fun E σ H h => ?_
  obtain ⟨ρ, T, t, F0, H0, F, k, w, h, fe⟩ := h
  exact fe.nx _ _ _ _ _ w (Same.refl _) h
def sRet (fe : dE) : dS := fun k ρ T => fe ρ T k.rt
theorem s_ret (he : PEd X e fe) : PSd X (.Return (some e) pos) (sRet fe) := by
  refine ps_imp (ps_ret he) fun E σ H h => ?_
  obtain ⟨ρ, T, t, F0, H0, F, k, w, h, fe⟩ := h
  exact ⟨ρ, T, t, F, _, w.w, h, fun v H1 F1 d T1 w1 g1 r1 h1 => fe.rt _ _ _ _ _ w1 (w.g.trans g1) r1 h1⟩
def sExpr (fe : dE) : dS := fun k ρ T => fe ρ T fun _ T1 => k.nx ρ T1
theorem s_expr (he : PEd X e fe) (hs : swapsWith e none pos.line X.env = pure false := by rfl) : PSd X (.Expr e pos) (sExpr fe) := by
  refine ps_imp (ps_expr he hs) fun E σ H h => ?_
  obtain ⟨ρ, T, t, F0, H0, F, k, w, h, fe⟩ := h
  exact ⟨ρ, T, t, F, _, w.w, h, fun v H1 F1 d T1 w1 g1 r1 h1 => fe.nx _ _ _ _ _ (w.grow g1 w1) g1.sub h1⟩
def sIf (c : dT) (f g : dS) : dS := fun k ρ T => c ρ T fun b T1 => if b = true then f k ρ T1 else g k ρ T1
theorem s_if {c : Expr} {tc : dT} {a b : List Stmt} (hc : PTd X c tc) (ha : PSsd X a f) (hb : PSsd X b g) : PSd X (.If c a b pos) (sIf tc f g) := by
  refine ps_imp (ps_if hc ha hb) fun E σ H h => ?_
  obtain ⟨ρ, T, t, F0, H0, F, k, w, h, fe⟩ := h
  refine ⟨ρ, T, t, F, _, w.w, h, fun b H1 F1 T1 w1 g1 h1 => ?_⟩
  cases b with
  | true => exact ⟨ρ, T1, t, F0, H0, F1, k, w.grow g1 w1, h1, fe.to g1.sub⟩
  | false => exact ⟨ρ, T1, t, F0, H0, F1, k, w.grow g1 w1, h1, fe.to g1.sub⟩
theorem s_never : PSd X st (fun _ _ _ => False) := by
  refine ps_imp ps_never fun E σ H h => ?_
  obtain ⟨ρ, T, t, F0, H0, F, k, w, h, fe⟩ := h
  exact h.elim
/-! storing a value in a slot -/
theorem getSet {α : Type} {l : List α} {i j : Nat} {a : α} {b : α} (h : (l.set i a)[j]? = some b) : (i = j ∧ i < l.length ∧ b = a) ∨ (i ≠ j ∧ l[j]? = some b) := by
  by_cases e : i = j
  · subst e
    by_cases hl : i < l.length
    · rw [List.getElem?_set_self hl] at h; cases h; exact .inl ⟨rfl, hl, rfl⟩
    · rw [List.getElem?_eq_none (by simpa using hl)] at h; cases h
  · rw [List.getElem?_set_ne e] at h; exact .inr ⟨e, h⟩
theorem Wd.put {K : PySem.W.Frag} {ρ : En} {T : Tk} {t : Option Addr} {σ : L2.St} {F H : Hp} (w : Wd K ρ T t σ F H) {i : Nat} {d : D} {v : V} (r : Rep K F d v) : Wd K (ρ.set i (some (.val d))) T t (σ.set i (some v)) F H := by
  refine ⟨w.wt, by simpa using w.len, fun j s e => ?_, fun j j' xs ys l e1 e2 e3 e4 => ?_⟩
  · rcases getSet e with ⟨rfl, hl, e'⟩ | ⟨ne, e'⟩
    · cases e'
      exact ⟨v, by rw [List.getElem?_set_self (by rw [← w.len]; exact hl)], r⟩
    · obtain ⟨u, h1, h2⟩ := w.slot j s e'
      exact ⟨u, by rw [List.getElem?_set_ne ne]; exact h1, h2⟩
  · rcases getSet e1 with ⟨_, _, z⟩ | ⟨n1, e1⟩
    · cases z
    · rcases getSet e2 with ⟨_, _, z⟩ | ⟨n2, e2⟩
      · cases z
      · rw [List.getElem?_set_ne n1] at e3
        rw [List.getElem?_set_ne n2] at e4
        exact w.apart j j' xs ys l e1 e2 e3 e4
theorem Ws.put {K : PySem.W.Frag} {ρ : En} {T : Tk} {t : Option Addr} {σ : L2.St} {F0 H0 F H : Hp} (w : Ws K ρ T t σ F0 H0 F H) {i : Nat} {d : D} {v : V} (r : Rep K F d v) : Ws K (ρ.set i (some (.val d))) T t (σ.set i (some v)) F0 H0 F H := by
  refine ⟨w.w.put r, w.g, fun j xs l e1 e2 => ?_⟩
  rcases getSet e1 with ⟨_, _, z⟩ | ⟨ne, e1⟩
  · cases z
  · rw [List.getElem?_set_ne ne] at e2
    exact w.fr j xs l e1 e2

/-! targets -/
abbrev dG := D → En → Tk → (En → Tk → Prop) → Prop
def tDG (K : PySem.W.Frag) (g : dG) : TG := fun v σ H Q => ∃ ρ T t F0 H0 F d k, Ws K ρ T t σ F0 H0 F H ∧ Rep K F d v ∧ g d ρ T k ∧ FinS K t F0 H0 F k Q
abbrev PGd (X : Cx) (tg : Expr) (g : dG) : Prop := PG X tg (tDG X.K g)
abbrev dGs := List D → En → Tk → (En → Tk → Prop) → Prop
def tDGs (K : PySem.W.Frag) (g : dGs) : TGs := fun vs σ H Q => ∃ ρ T t F0 H0 F ds k, Ws K ρ T t σ F0 H0 F H ∧ RepL K F ds vs ∧ g ds ρ T k ∧ FinS K t F0 H0 F k Q
theorem pg_imp {tg : Expr} {t u : TG} (h : PG X tg t) (i : ∀ v σ H Q, u v σ H Q → t v σ H Q) : PG X tg u := ⟨fun pins s σ H v u Q I r q => h.run pins s σ H v u Q I r (i _ _ _ _ q)⟩
theorem pgs_imp {tg : List Expr} {t u : TGs} (h : PGs X tg t) (i : ∀ v σ H Q, u v σ H Q → t v σ H Q) : PGs X tg u := ⟨fun pins s σ H v u Q I r q => h.run pins s σ H v u Q I r (i _ _ _ _ q)⟩
def gN (i : Nat) : dG := fun d ρ T k => k (ρ.set i (some (.val d))) T
theorem g_name (i : Nat) {x : Str} (hN : X.N.Nodup) (hi : X.N[i]? = some x := by rfl) (hx : Loc X.env.scope x := by first | exact Or.inl rfl | exact Or.inr rfl) (hf : X.fn x = true ∨ X.env.scope.names.lookup x = some .local := by first | exact .inl rfl | exact .inr rfl | assumption) : PGd X (.Name x pos) (gN i) := by
  refine pg_imp (pg_name hN hi hx hf) fun v σ H Q h => ?_
  obtain ⟨ρ, T, t, F0, H0, F, d, k, w, r, h, f⟩ := h
  exact f _ _ _ _ _ (w.put r) (Same.refl _) h
def gsNil : dGs := fun ds ρ T k => ds = [] ∧ k ρ T
def gsCons (g : dG) (gs : dGs) : dGs := fun ds ρ T k => match ds with | d :: r => g d ρ T fun ρ' T' => gs r ρ' T' k | [] => False
theorem gs_nil : PGs X [] (tDGs X.K gsNil) := by
  refine pgs_imp pgs_nil fun vs σ H Q h => ?_
  obtain ⟨ρ, T, t, F0, H0, F, ds, k, w, r, ⟨e, h⟩, f⟩ := h
  subst e
  cases r
  exact ⟨rfl, f _ _ _ _ _ w (Same.refl _) h⟩
theorem gs_cons {tg : Expr} {tgs : List Expr} {g : dG} {gs : dGs} (h1 : PGd X tg g) (h2 : PGs X tgs (tDGs X.K gs)) (hs : (assignEach (tg :: tgs) X.env).map (·.2) = assign tg X.env :: (assignEach tgs X.env).map (·.2) := by rfl) : PGs X (tg :: tgs) (tDGs X.K (gsCons g gs)) := by
  refine pgs_imp (pgs_cons h1 h2 hs) fun vs σ H Q h => ?_
  obtain ⟨ρ, T, t, F0, H0, F, ds, k, w, r, h, f⟩ := h
  cases r with
  | nil => exact h.elim
  | cons r1 rr => exact ⟨_, _, rfl, ρ, T, t, F0, H0, F, _, _, w, r1, h, fun ρ' T' σ' F' H' w' s' h' => ⟨ρ', T', t, F0, H0, F', _, k, w', rr.mono s', h', f.to s'⟩⟩
def gT (n : Nat) (gs : dGs) : dG := fun d ρ T k => match d with | .tup ds => ds.length = n ∧ gs ds ρ T k | _ => False
def sAsg (fe : dE) (g : dG) : dS := fun k ρ T => fe ρ T fun d T1 => g d ρ T1 k.nx
theorem asg_ok {K : PySem.W.Frag} {g : dG} {σ : L2.St} {H : Hp} {E : Ends} (h : tDS K (sAsg fe g) E σ H) : tD K fe σ H fun v H1 => tDG K g v σ H1 E.nx := by
  obtain ⟨ρ, T, t, F0, H0, F, k, w, h, fe⟩ := h
  refine ⟨ρ, T, t, F, _, w.w, h, fun v H1 F1 d T1 w1 g1 r1 h1 => ?_⟩
  exact ⟨ρ, T1, t, F0, H0, F1, d, _, w.grow g1 w1, r1, h1, fe.nx.to g1.sub⟩
theorem s_asg {tg : Expr} {g : dG} (he : PEd X e fe) (hg : PGd X tg g) (hs : swapsWithSole [tg] e pos.line X.env = pure false := by rfl) (hw : swappedStores [tg] e X.env = pure none := by rfl)
    (h1 : (assignEach [tg] X.env).map (·.2) = [assign tg X.env] := by rfl) : PSd X (.Assign [tg] e pos) (sAsg fe g) :=
  ps_imp (ps_asg he hg hs hw h1) fun _ _ _ h => asg_ok h
theorem s_set (i : Nat) {x : Str} {pos' : Pos} (hN : X.N.Nodup) (he : PEd X e fe) (hi : X.N[i]? = some x := by rfl) (hx : Loc X.env.scope x := by first | exact Or.inl rfl | exact Or.inr rfl) (hs : swapsWith e (some (.Name x pos')) pos.line X.env = pure false := by rfl)
    (hf : X.fn x = true ∨ X.env.scope.names.lookup x = some .local := by first | exact .inl rfl | exact .inr rfl | assumption) : PSd X (.Assign [.Name x pos'] e pos) (sAsg fe (gN i)) := by
  refine ps_imp (ps_set hN hi hx he hs hf) fun E σ H h => ?_
  obtain ⟨ρ, T, t, F0, H0, F, k, w, h, fe⟩ := h
  exact ⟨ρ, T, t, F, _, w.w, h, fun v H1 F1 d T1 w1 g1 r1 h1 => fe.nx _ _ _ _ _ ((w.grow g1 w1).put r1) g1.sub h1⟩
/-- a, b = x, y -/
def sPar (i j : Nat) (fr : dA) : dS := fun k ρ T => fr ρ T fun as T1 => match as with | [.val d, .val e] => k.nx ((ρ.set i (some (.val d))).set j (some (.val e))) T1 | _ => False
theorem s_par (i j : Nat) {x y : Str} {a b : Expr} {fr : dA} {px py pt : Pos} {kt k2 pt2} (hc : X.calm = true) (hN : X.N.Nodup) (ha : PAd X [a, b] fr)
    (hi : X.N[i]? = some x := by rfl) (hj : X.N[j]? = some y := by rfl) (hij : i ≠ j := by decide) (hx : X.env.scope.names.lookup x = some .local := by rfl) (hy : X.env.scope.names.lookup y = some .local := by rfl)
    (hw : swappedStores [.Tuple [.Name x px, .Name y py] kt pt] (.Tuple [a, b] k2 pt2) X.env = pure (some [x, y]) := by rfl)
    (hs : swapsWithSole [.Tuple [.Name x px, .Name y py] kt pt] (.Tuple [a, b] k2 pt2) pos.line X.env = pure false := by rfl) : PSd X (.Assign [.Tuple [.Name x px, .Name y py] kt pt] (.Tuple [a, b] k2 pt2) pos) (sPar i j fr) := by
  refine ps_imp (ps_par hc hN hi hj hij hx hy ha hw hs) fun E σ H h => ?_
  obtain ⟨ρ, T, t, F0, H0, F, k, w, h, fe⟩ := h
  refine ⟨ρ, T, t, F, _, w.w, h, fun vs H1 F1 as T1 w1 g1 r1 h1 => ?_⟩
  split at h1
  · cases r1 with
    | val r1 rr =>
      cases rr with
      | val r2 rr =>
        cases rr
        exact ⟨_, _, rfl, fe.nx _ _ _ _ _ (((w.grow g1 w1).put r1).put r2) g1.sub h1⟩
  · exact h1.elim

/-! loops -/
def sWhile (c : dT) (f : dS) : dS := fun k ρ T => ∃ W : Nat → En → Tk → Prop, (∃ m, W m ρ T) ∧ ∀ m ρ T, W m ρ T → c ρ T fun b T1 => if b = true then
  f { nx := fun ρ' T' => ∃ m', m' < m ∧ W m' ρ' T', rt := k.rt, bk := k.nx, ct := fun ρ' T' => ∃ m', m' < m ∧ W m' ρ' T' } ρ T1 else k.nx ρ T1
theorem s_while {c : Expr} {tc : dT} {body : List Stmt} (hp : PassesOwn (model X.prog X.w) X.A X.env X.xe) (hc : PTd X c tc) (hb : PSsd X body f) : PSd X (.While c body [] pos) (sWhile tc f) := by
  refine ps_imp (ps_while hp hc hb) fun E σ H h => ?_
  obtain ⟨ρ, T, t, F0, H0, F, k, w, ⟨W, ⟨m0, w0⟩, turn⟩, fe⟩ := h
  refine ⟨fun m σ H => ∃ ρ T F', Ws X.K ρ T t σ F0 H0 F' H ∧ Same F F' ∧ W m ρ T, ⟨m0, ρ, T, F, w, Same.refl _, w0⟩, fun m σ H h => ?_⟩
  obtain ⟨ρ, T, F', w, sF, hW⟩ := h
  refine ⟨ρ, T, t, F', _, w.w, turn m ρ T hW, fun b H1 F1 T1 w1 g1 h1 => ?_⟩
  have s1 : Same F F1 := sF.trans g1.sub
  cases b with
  | false => exact fe.nx _ _ _ _ _ (w.grow g1 w1) s1 h1
  | true =>
    rw [if_pos rfl] at h1
    refine iteT ⟨fun σ' H' => ∃ m', m' < m ∧ ∃ ρ T F', Ws X.K ρ T t σ' F0 H0 F' H' ∧ Same F F' ∧ W m' ρ T, fun σ' H' h => h, ρ, T1, t, F0, H0, F1, _, w.grow g1 w1, h1, ?_⟩
    exact ⟨fun ρ' T' σ' F' H' w' s' ⟨m', lt, hw'⟩ => ⟨m', lt, ρ', T', F', w', s1.trans s', hw'⟩, fe.rt, fe.nx.to s1, fun ρ' T' σ' F' H' w' s' ⟨m', lt, hw'⟩ => ⟨m', lt, ρ', T', F', w', s1.trans s', hw'⟩⟩
/-- over some items -/
def forL (g : dG) (f : dS) (k : dEnds) : List D → En → Tk → Prop
  | [], ρ, T => k.nx ρ T
  | d :: r, ρ, T => g d ρ T fun ρ1 T1 => f { nx := forL g f k r, rt := k.rt, bk := k.nx, ct := forL g f k r } ρ1 T1
def D.items : D → Option (List D) | .tup xs => some xs | .lst xs => some xs | _ => none
/-- range(lo, lo + n) -/
def intsL (lo : Int) : Nat → List D
  | 0 => [] | n + 1 => .int lo :: intsL (lo + 1) n
theorem intsL_len : ∀ (n : Nat) (lo : Int), (intsL lo n).length = n
  | 0, _ => rfl
  | n + 1, lo => by simp [intsL, intsL_len n]
theorem intsL_get : ∀ (n : Nat) (lo : Int) (i : Nat), i < n → (intsL lo n)[i]? = some (.int (lo + i))
  | 0, _, _, h => absurd h (Nat.not_lt_zero _)
  | n + 1, lo, 0, _ => by simp [intsL]
  | n + 1, lo, i + 1, h => by
    show (intsL (lo + 1) n)[i]? = _
    rw [intsL_get n (lo + 1) i (by omega)]
    congr 2
    omega
end
end L2.G

namespace L2.G
open PySem PySem.Spec PyProof.Rows

/-! a def's promise where no text is being written (for repr) -/
structure GFn (P : Program) (w : World) (K : PySem.W.Frag) (mg : Str → Option Value) (base : Heap) (CX : CXT) (n : Nat) (f : Addr) (fd : FuncData) (ps : List Str) (sp : Sp) : Prop where
  len : ∀ vs H Q E, sp vs H Q E → vs.length = ps.length
  go : ∀ (A : Around) (fs : List Env) (s : Shared) (H : Hp) (args : Args) (us : List Value) (vs : List V) (Q : VK) (E : XK),
    Room n A ∧ A.guards = some [] → Env0 P w K mg base A fs s H → BindsTo s fd args (ps.zip us) → Vals vs us → sp vs H Q E → codeAny (model P w) A (.call (.ref f) args) (CR CX fs P w H s Q E) s

section
variable {P : Program} {w : World} {K : PySem.W.Frag} {mg : Str → Option Value} {base : Heap} {CX : CXT}
theorem GFn.mono {m n : Nat} {f : Addr} {fd : FuncData} {ps : List Str} {sp : Sp} (G : GFn P w K mg base CX m f fd ps sp) (h : m ≤ n) : GFn P w K mg base CX n f fd ps sp :=
  ⟨G.len, fun A fs s H args us vs Q E r => G.go A fs s H args us vs Q E ⟨r.1.mono h, r.2⟩⟩
theorem GFn.imp {n : Nat} {f : Addr} {fd : FuncData} {ps : List Str} {sp sp' : Sp} (G : GFn P w K mg base CX n f fd ps sp) (h : ∀ vs H Q E, sp' vs H Q E → sp vs H Q E) : GFn P w K mg base CX n f fd ps sp' :=
  ⟨fun vs H Q E q => G.len vs H Q E (h _ _ _ _ q), fun A fs s H args us vs Q E r e b v q => G.go A fs s H args us vs Q E r e b v (h _ _ _ _ q)⟩
/-- by the body -/
theorem gfn_body {n : Nat} {f : Addr} {name qual : Str} {params : Arguments} {body : List Stmt} {scope : Scope} {dV kV doc pm cdv ct oc : Value} {an od : Option Addr} {osl : Array (Option Value)} {N ps : List Str} {sp : Sp}
    (lk : K.lookup f = some ⟨oc, od, .func (PySem.W.fnOf name qual params body scope dV kV doc pm an cdv ct), osl⟩) (hcd : PySem.W.codeIn K cdv qual = true) (S : FnScope N ps scope) (len : ∀ vs H Q E, sp vs H Q E → vs.length = ps.length)
    (hb : ∀ (A : Around) (fs : List Env) (s : Shared) (H : Hp) (vs : List V) (Q : VK) (E : XK), Room n (A.deeper (envOfC qual scope s.heap.objs.size f cdv)) → A.guards = some [] → sp vs H Q E →
      ∃ t, PSs (cxOf CX P w K mg base N qual scope f cdv A fs s H E) body t ∧ t { nx := fun _ H' => Q .non H', rt := Q } (start N vs) H) :
    GFn P w K mg base CX (n + 1) f (PySem.W.fnOf name qual params body scope dV kV doc pm an cdv ct) ps sp := by
  constructor
  · exact len
  intro A fs s H args us vs Q E room e0 bd r hsp
  obtain ⟨hr, hgd⟩ := room
  have hl := len _ _ _ _ hsp
  have up : ∀ b o, base.get? b = some o → s.heap.get? b = some o := fun b o e => (e0.bs b o e).1
  have KX : K.In s.heap := e0.mod.kin.keeps up
  have hk : ∀ y ∈ ps.zip us, scope.names.lookup y.1 = some .local ∨ (scope.names.lookup y.1 = some .cell ∧ ((cellsFrom (s.heap.objs.size + 1) scope.names []).lookup y.1).isSome = true) := by
    rintro ⟨m, v⟩ hy
    cases S.par m (List.of_mem_zip hy).1 with
    | inl q => exact .inl q
    | inr q => exact .inr ⟨q, PySem.W.cellsFrom_some _ _ _ (.inl q)⟩
  apply codeAny_call_function hr.depth (KX _ _ lk) rfl S.co S.gen rfl (PySem.W.codeRec_of KX hcd)
  apply bd
  apply wpAny_newFunctionEnv_cells S.kind hk
  intro env he s1 x
  subst he
  constructor
  · exact (e0.mod.nolimit.keeps up).keeps x.toInCall.keep
  apply codeAny_func
  obtain ⟨t, ht, hq⟩ := hb A fs s H vs Q E (hr.deeper _) hgd hsp
  have I := inv_start (CX := CX) (E := E) (f := f) (cd := cdv) (qual := qual) S hr.hd e0 hl r x
  have last : ∀ {σ' : L2.St} {H' : Hp} {v : V} {u : Value} {s' : Shared}, Inv (cxOf CX P w K mg base N qual scope f cdv A fs s H E) [] σ' H' s' → RelV v u → Q v H' → CE fs P w H s Q u s' :=
    fun {_ H' v u _} J rv q => ⟨v, H', J.os, J.bare, J.base, J.hok, rv, q⟩
  apply wpAny_mono (ht.run [] s1 (start N vs) H _ I hq)
  · intro fl s' hs
    cases fl with
    | next => obtain ⟨_, _, J, q⟩ := hs; exact last (v := V.non) (u := Value.none) J rfl q
    | brk => obtain ⟨_, _, _, q⟩ := hs; exact q.elim
    | cont => obtain ⟨_, _, _, q⟩ := hs; exact q.elim
    | ret u => obtain ⟨v, _, _, J, rv, q⟩ := hs; exact last J rv q
  · exact fun e s' hs => hs
end

section
variable {X : Cx} {CX : CXT} {n : Nat} {f : Addr} {fd : FuncData} {ps ks : List Str} {sp : Sp} {E : XK} {x : Str} {p pos : Pos} {e : Expr} {es : List Expr} {kws : List Keyword} {t tk : TA} {g : List Value → List Value → List Value} {gV : List V → List V → List V}
/-- the call, however the arguments are bound -/
theorem g_run (G : GFn X.prog X.w X.K X.mg X.base CX n f fd ps sp) (hr : Room n X.A) (hgd : X.A.guards = some []) (hx : Passes CX X E) {pins : List (Addr × Obj)} {σ : L2.St} {H : Hp} {s : Shared} {Q : VK} {args : Args} {us : List Value} {vs : List V}
    (I : Inv X pins σ H s) (r : Vals vs us) (b : BindsTo s fd args (ps.zip us)) (h : sp vs H Q E) : wpAny (model X.prog X.w) X.A (call (.ref f) args.pos args.kw) (EP X pins σ Q) X.xe s := by
  apply wpAny_call
  apply codeAny_mono (G.go X.A X.stack s H args us vs Q E ⟨hr, hgd⟩ I.env0 b r h)
  intro r s' hq
  match r, hq with
  | .error e, hq => exact hx pins σ H s e s' I hq
  | .ok (.ret u), hq => exact I.after hq
theorem g_call (G : GFn X.prog X.w X.K X.mg X.base CX n f fd ps sp) (hr : Room n X.A) (hgd : X.A.guards = some []) (hg : Gl X x) (hm : X.mg x = some (.ref f)) (hk : PySem.W.keepIn X.K (.ref f) = true) (hb : Binds X.K fd ps []) (hx : Passes CX X E)
    (ha : PA X (e :: es) t) (hd : (x == ("__debug__" : Str)) = false := by decide) (he : starEach (e :: es) X.env = (false, eval e X.env) :: starEach es X.env := by rfl) (hp : (backTo pos (starEach es X.env)).any (·.1) = false := by rfl) :
    PE X (.Call (.Name x p) (e :: es) [] pos) (tCall sp [] E t) := by
  constructor
  intro pins s σ H Q I h
  apply wpAny_Call_Name_kw
  apply ld_glob I hg hm _ hd
  apply PySem.W.callWith_K (h₀ := X.base) I.ok.mod.kin hk _ he hp
  apply thn (ha.run pos pins s σ H _ I h)
  rintro us s1 ⟨vs, H1, I1, r, q⟩
  refine ⟨I1.kIn, ?_⟩
  have q : sp (vs ++ []) H1 Q E := q
  rw [List.append_nil] at q
  have hl : us.length = ps.length := by rw [← r.length]; exact G.len _ _ _ _ q
  have b := hb s1 us I1.kIn (by rw [List.append_nil]; exact hl)
  rw [List.append_nil] at b
  exact g_run G hr hgd hx (args := ⟨us, []⟩) I1 r b q
end

/-! defs over data -/
abbrev Sem := List SV → Tk → KD → Prop
def spD (K : PySem.W.Frag) (n : Nat) (sem : Sem) : Sp := fun vs H Q _ => vs.length = n ∧ ∃ F t T as k, ArgL K t F as vs ∧ Wt K T t F H ∧ sem as T k ∧ Fin K t F H k Q
/-- the def x stands in the module and does sem -/
def Ok (P : Program) (w : World) (K : PySem.W.Frag) (mg : Str → Option Value) (base : Heap) (n : Nat) (x : Str) (ps : List Str) (sem : Sem) : Prop :=
  ∃ f fd, mg x = some (.ref f) ∧ PySem.W.keepIn K (.ref f) = true ∧ Binds K fd ps [] ∧ (∀ (s : Shared) (ws : List Value), K.In s.heap → ws.length = ps.length → BindsTo s fd ⟨[], ps.zip ws⟩ (ps.zip ws)) ∧ GFn P w K mg base CX0 n f fd ps (spD K ps.length sem) ∧ ∃ oc od osl, K.lookup f = some ⟨oc, od, .func fd, osl⟩
def Df (K : PySem.W.Frag) (mg : Str → Option Value) (x : Str) (st : Stmt) : Prop := ∃ f fd, Fun K x x st f fd ∧ mg x = some (.ref f)
theorem Ok.mono {P : Program} {w : World} {K : PySem.W.Frag} {mg : Str → Option Value} {base : Heap} {m n : Nat} {x : Str} {ps : List Str} {sem : Sem} (h : Ok P w K mg base m x ps sem) (l : m ≤ n) : Ok P w K mg base n x ps sem :=
  let ⟨f, fd, h1, h2, h3, h4, h5, h6⟩ := h; ⟨f, fd, h1, h2, h3, h4, h5.mono l, h6⟩
/-- a weaker reading -/
theorem Ok.imp {P : Program} {w : World} {K : PySem.W.Frag} {mg : Str → Option Value} {base : Heap} {n : Nat} {x : Str} {ps : List Str} {sem sem' : Sem} (h : Ok P w K mg base n x ps sem) (i : ∀ as T k, sem' as T k → sem as T k) : Ok P w K mg base n x ps sem' :=
  let ⟨f, fd, h1, h2, h3, h4, h5, h6⟩ := h; ⟨f, fd, h1, h2, h3, h4, h5.imp (fun vs H Q E ⟨q1, F, t, T, as, k, a, b, c, d⟩ => ⟨q1, F, t, T, as, k, a, b, i _ _ _ c, d⟩), h6⟩
abbrev CxD (P : Program) (w : World) (K : PySem.W.Frag) (mg : Str → Option Value) (base : Heap) (N : List Str) (x : Str) (st : Stmt) (f : Addr) (cdv : Value) (A : Around) (fs : List Env) (s : Shared) (H : Hp) (E : XK) : Cx :=
  (cxOf CX0 P w K mg base N x (defScope st) f cdv A fs s H E).nox
/-- what a body does, from the arguments -/
def start' (N : List Str) (as : List SV) : En := as.map some ++ List.replicate (N.length - as.length) none
def semOf (N : List Str) (b : dS) : Sem := fun as T k => b { nx := fun _ T => k .non T, rt := k, bk := fun _ _ => False, ct := fun _ _ => False } (start' N as) T
theorem argGet {K : PySem.W.Frag} {t : Option Addr} {F H : Hp} : ∀ {as : List SV} {vs : List V} (r : ArgL K t F as vs) (i : Nat) s, as[i]? = some s → (∃ v, vs[i]? = some v ∧ SlotR K t F H s v) ∧ ∀ xs, s ≠ .own xs
  | _, _, .nil, _, _, e => by simp at e
  | _, _, .val r q, 0, s, e => by simp at e; subst e; exact ⟨⟨_, rfl, r⟩, fun _ z => nomatch z⟩
  | _, _, .tank r q, 0, s, e => by simp at e; subst e; exact ⟨⟨_, rfl, _, r, rfl⟩, fun _ z => nomatch z⟩
  | _, _, .val r q, i + 1, s, e => argGet q i s (by simpa using e)
  | _, _, .tank r q, i + 1, s, e => argGet q i s (by simpa using e)
theorem startGet {N : List Str} {as : List SV} {i : Nat} {s : SV} (h : (start' N as)[i]? = some (some s)) : as[i]? = some s := by
  unfold start' at h
  by_cases hi : i < as.length
  · rw [List.getElem?_append_left (by simpa using hi), List.getElem?_map] at h
    cases e : as[i]? with
    | none => rw [e] at h; cases h
    | some a => rw [e] at h; cases h; rfl
  · rw [List.getElem?_append_right (by simpa using hi), List.getElem?_replicate] at h
    split at h <;> cases h
theorem wd_start {K : PySem.W.Frag} {N : List Str} {t : Option Addr} {F H : Hp} {T : Tk} {as : List SV} {vs : List V} (r : ArgL K t F as vs) (w : Wt K T t F H) : Wd K (start' N as) T t (start N vs) F H := by
  refine ⟨w, by simp [start', start, r.len], fun i s e => ?_, fun i j xs ys l e1 _ _ _ => ?_⟩
  · have e' := startGet e
    obtain ⟨⟨v, h1, h2⟩, _⟩ := argGet (H := H) r i s e'
    refine ⟨v, ?_, h2⟩
    have hi := (List.getElem?_eq_some_iff.mp h1).1
    unfold start
    rw [List.getElem?_append_left (by simpa using hi), List.getElem?_map, h1]
    rfl
  · exact absurd rfl ((argGet (H := H) r i _ (startGet e1)).2 xs)
/-- where the def x stands, and its code object -/
def CdAt (K : PySem.W.Frag) (mg : Str → Option Value) (x : Str) (f : Addr) (cdv : Value) : Prop := mg x = some (.ref f) ∧ ∃ oc od fd osl, K.lookup f = some ⟨oc, od, .func fd, osl⟩ ∧ fd.code = cdv
theorem ok_def {P : Program} {w : World} {K : PySem.W.Frag} {mg : Str → Option Value} {base : Heap} {n : Nat} {x : Str} {st : Stmt} {N ps : List Str} {b : dS} (h : Df K mg x st) (S : FnScope N ps (defScope st))
    (hb1 : ∀ (kV doc pm : Value) (an : Option Addr) (cdv ct : Value) (us : List Value), us.length = ps.length → bindArgs (PySem.W.fnOf x x (defArgs st) (defBody st) (defScope st) .none kV doc pm an cdv ct) ⟨us, []⟩ = pure (ps.zip us))
    (hb2 : ∀ (kV doc pm : Value) (an : Option Addr) (cdv ct : Value) (us : List Value), us.length = ps.length → bindArgs (PySem.W.fnOf x x (defArgs st) (defBody st) (defScope st) .none kV doc pm an cdv ct) ⟨[], ps.zip us⟩ = pure (ps.zip us))
    (body : ∀ (f : Addr) (cdv : Value) (A : Around) (fs : List Env) (s : Shared) (H : Hp) (E : XK), CdAt K mg x f cdv → Room n (A.deeper (envOfC x (defScope st) s.heap.objs.size f cdv)) → A.guards = some [] → PSsd (CxD P w K mg base N x st f cdv A fs s H E) (defBody st) b) :
    Ok P w K mg base (n + 1) x ps (semOf N b) := by
  obtain ⟨f, fd, Fn, hm⟩ := h
  refine ⟨f, fd, hm, Fn.kp, Fn.binds hb1, ?_, ?_, by obtain ⟨oc, od, kV, doc, pm, an, cdv, ct, osl, _, lk, _⟩ := Fn.ex; exact ⟨oc, od, osl, lk⟩⟩
  · obtain ⟨oc, od, kV, doc, pm, an, cdv, ct, osl, rfl, lk, hcd⟩ := Fn.ex
    exact fun s ws _ hl => .of_eq (hb2 kV doc pm an cdv ct ws hl)
  · obtain ⟨oc, od, kV, doc, pm, an, cdv, ct, osl, rfl, lk, hcd⟩ := Fn.ex
    refine gfn_body lk hcd S (fun vs H Q E q => q.1) fun A fs s H vs Q E hr hgd hsp => ?_
    obtain ⟨hl, F, t, T, as, k, ar, wt, h, fin⟩ := hsp
    refine ⟨_, (body f cdv A fs s H E ⟨hm, _, _, _, _, lk, rfl⟩ hr hgd).nox, start' N as, T, t, F, H, F, _, ⟨wd_start ar wt, Grow.refl _ _ _, fun i xs l e1 _ => ?_⟩, h, ?_⟩
    · exact absurd rfl ((argGet (H := H) ar i _ (startGet e1)).2 xs)
    · exact ⟨fun ρ T' σ' F' H' w' _ q => fin .non H' F' .non T' w'.w.wt w'.g .non q, fun v H' F' d T' w' g' r' q => fin v H' F' d T' w' g' r' q, fun _ _ _ _ _ _ _ q => q.elim, fun _ _ _ _ _ _ _ q => q.elim⟩

section
variable {X : Cx} {n : Nat} {x : Str} {ps : List Str} {sem : Sem} {p pos : Pos} {e : Expr} {es : List Expr} {kws : List Keyword} {fr : dA}
def dCall (n : Nat) (sem : Sem) (fr : dA) : dE := fun ρ T k => fr ρ T fun as T1 => as.length = n ∧ sem as T1 k
theorem call_ok {K : PySem.W.Frag} {E : XK} {σ : L2.St} {H : Hp} {Q : VK} (h : tD K (dCall n sem fr) σ H Q) : tCall (spD K n sem) [] E (tDA K fr) σ H Q := by
  obtain ⟨ρ, T, t, F, k, w, h, f⟩ := h
  refine ⟨ρ, T, t, F, _, w, h, fun vs H1 F1 as T1 w1 g1 r1 h1 => ?_⟩
  show spD K n sem (vs ++ []) H1 Q E
  rw [List.append_nil]
  exact ⟨by rw [← r1.len]; exact h1.1, F1, t, T1, as, k, r1, w1, h1.2, f.then g1⟩
theorem d_call (G : Ok X.prog X.w X.K X.mg X.base n x ps sem) (hr : Room n X.A) (hgd : X.A.guards = some []) (ha : PAd X (e :: es) fr) (hg : Gl X x := by rfl)
    (hd : (x == ("__debug__" : Str)) = false := by decide) (he : starEach (e :: es) X.env = (false, eval e X.env) :: starEach es X.env := by rfl) (hp : (backTo pos (starEach es X.env)).any (·.1) = false := by rfl) : PEd X (.Call (.Name x p) (e :: es) [] pos) (dCall ps.length sem fr) := by
  obtain ⟨f, fd, h1, h2, h3, _, h5, _⟩ := G
  exact pe_imp (g_call (E := E0) h5 hr hgd hg h1 h2 h3 pass0 ha hd he hp) fun _ _ _ h => call_ok h
theorem pk_imp {t u : TA} (h : PK X kws t) (i : ∀ σ H Q, u σ H Q → t σ H Q) : PK X kws u := ⟨fun pos pins s σ H Q I q => h.run pos pins s σ H Q I (i _ _ _ q)⟩
abbrev PKd (X : Cx) (kws : List Keyword) (f : dA) : Prop := PK X kws (tDA X.K f)
theorem k_nil : PKd X [] aNil := by
  refine pk_imp pk_nil fun σ H Q h => ?_
  obtain ⟨ρ, T, t, F, k, w, h, f⟩ := h
  exact f _ _ _ _ _ w.wt (Grow.refl _ _ _) .nil h
theorem k_cons {nm : Option Str} {kp : Pos} {fe : dE} (he : PEd X e fe) (hr : PKd X kws fr) : PKd X (⟨nm, e, kp⟩ :: kws) (aCons fe fr) := by
  refine pk_imp (pk_cons he hr) fun σ H Q h => ?_
  obtain ⟨ρ, T, t, F, k, w, h, f⟩ := h
  refine ⟨ρ, T, t, F, _, w, h, fun v H1 F1 x T1 w1 g1 r1 h1 => ?_⟩
  refine ⟨ρ, T1, t, F1, _, w.grow g1 w1, h1, fun vs H2 F2 as T2 w2 g2 r2 h2 => ?_⟩
  exact f _ _ _ _ _ w2 (g1.trans g2) (.val (r1.mono g2.sub) r2) h2
end
end L2.G

namespace L2.G
open PySem PySem.Spec PyProof.Rows

/-! built-in functions -/
section
variable {X : Cx} {x : Str} {p pos : Pos} {e : Expr} {es : List Expr} {fr : dA} {id T : String} {r : List V → Hp → VK → Prop}
def dBlt (o : List D → (D → Prop) → Prop) (fr : dA) : dE := fun ρ T k => fr ρ T fun as T1 => match vals? as with | some ds => o ds fun d => k d T1 | none => False
def BltS (K : PySem.W.Frag) (r : List V → Hp → VK → Prop) (o : List D → (D → Prop) → Prop) : Prop := ∀ {t : Option Addr} {F H : Hp} {T : Tk} {ds : List D} {vs : List V} {k : KD} {Q : VK}, Wt K T t F H → RepL K F ds vs → o ds (fun d => k d T) → Fin K t F H k Q → r vs H Q
theorem blt_ok {K : PySem.W.Frag} {o : List D → (D → Prop) → Prop} (s : BltS K r o) {σ : L2.St} {H : Hp} {Q : VK} (h : tD K (dBlt o fr) σ H Q) : tCB r (tDA K fr) σ H Q := by
  obtain ⟨ρ, T, t, F, k, w, h, f⟩ := h
  refine ⟨ρ, T, t, F, _, w, h, fun vs H1 F1 as T1 w1 g1 r1 h1 => ?_⟩
  split at h1
  · rename_i ds e
    exact s w1 (r1.vals e) h1 (f.then g1)
  · exact h1.elim
theorem d_blt {o : List D → (D → Prop) → Prop} (hc : CallR X (.builtin id) r) (s : BltS X.K r o) (hm : X.mg x = none) (ha : PAd X (e :: es) fr) (hv : bootBuiltins x = some (.builtin id) := by decide +kernel) (hg : Gl X x := by rfl) (hn : x ≠ "__name__" := by decide) (hd : (x == ("__debug__" : Str)) = false := by decide)
    (he : starEach (e :: es) X.env = (false, eval e X.env) :: starEach es X.env := by rfl) (hp : (backTo pos (starEach es X.env)).any (·.1) = false := by rfl) : PEd X (.Call (.Name x p) (e :: es) [] pos) (dBlt o fr) :=
  pe_imp (pe_callB hc hg hm hv ha hn hd he hp) fun _ _ _ h => blt_ok s h
theorem d_blty {o : List D → (D → Prop) → Prop} (hc : CallR X (.type T) r) (s : BltS X.K r o) (hm : X.mg x = none) (ha : PAd X (e :: es) fr) (hv : bootBuiltins x = some (.type T) := by decide +kernel) (hg : Gl X x := by rfl) (hn : x ≠ "__name__" := by decide) (hd : (x == ("__debug__" : Str)) = false := by decide)
    (he : starEach (e :: es) X.env = (false, eval e X.env) :: starEach es X.env := by rfl) (hp : (backTo pos (starEach es X.env)).any (·.1) = false := by rfl) : PEd X (.Call (.Name x p) (e :: es) [] pos) (dBlt o fr) :=
  pe_imp (pe_callTy hc hg hm hv ha hn hd he hp) fun _ _ _ h => blt_ok s h
/-- a name of the module for a built-in function (gcd of math) -/
theorem d_bfun {o : List D → (D → Prop) → Prop} (hc : CallR X (.builtin id) r) (s : BltS X.K r o) (hm : X.mg x = some (.builtin id)) (ha : PAd X (e :: es) fr) (hg : Gl X x := by rfl) (hd : (x == ("__debug__" : Str)) = false := by decide)
    (he : starEach (e :: es) X.env = (false, eval e X.env) :: starEach es X.env := by rfl) (hp : (backTo pos (starEach es X.env)).any (·.1) = false := by rfl) : PEd X (.Call (.Name x p) (e :: es) [] pos) (dBlt o fr) :=
  pe_imp (pe_callBfun hc hg hm ha hd he hp) fun _ _ _ h => blt_ok s h

/-! len -/
def oLen (ds : List D) (k : D → Prop) : Prop := match ds with | [.tup xs] => k (.int xs.length) | [.lst xs] => k (.int xs.length) | [.scr xs] => k (.int xs.length) | _ => False
theorem oLen_ok {K : PySem.W.Frag} : BltS K (fun xs H Q => ∃ p ys, xs = [.ref p] ∧ (SqL K H p ys ∨ SqT K H p ys) ∧ Q (.int ys.length) H) oLen := by
  intro t F H T ds vs k Q wt r q f
  unfold oLen at q
  split at q
  · cases r with
    | cons r rr =>
      cases rr
      obtain ⟨a, ws, rfl, h, r⟩ := rep_tup r
      rw [r.len] at q
      exact ⟨a, ws, rfl, .inr (same_t wt.sub h), f.val wt (.int _) q⟩
  · cases r with
    | cons r rr =>
      cases rr
      obtain ⟨a, ws, rfl, h, r⟩ := rep_lst r
      rw [r.len] at q
      exact ⟨a, ws, rfl, .inl (.of (wt.sub _ _ h)), f.val wt (.int _) q⟩
  · cases r with
    | cons r rr =>
      cases rr
      obtain ⟨a, ws, rfl, h, r⟩ := rep_scr r
      rw [r.len] at q
      exact ⟨a, ws, rfl, .inl (wt.sub.seq h), f.val wt (.int _) q⟩
  · exact q.elim
/-! functions of ints -/
def o1 (g : Int → Int) (ds : List D) (k : D → Prop) : Prop := match ds with | [.int i] => k (.int (g i)) | _ => False
def o2 (g : Int → Int → Int) (ds : List D) (k : D → Prop) : Prop := match ds with | [.int i, .int j] => k (.int (g i j)) | _ => False
theorem o1_ok {K : PySem.W.Frag} {g : Int → Int} : BltS K (fun xs H Q => ∃ i, xs = [.int i] ∧ Q (.int (g i)) H) (o1 g) := by
  intro t F H T ds vs k Q wt r q f
  unfold o1 at q
  split at q
  · cases r with
    | cons r rr => cases rr; cases r; exact ⟨_, rfl, f.val wt (.int _) q⟩
  · exact q.elim
theorem o2_ok {K : PySem.W.Frag} {g : Int → Int → Int} : BltS K (fun xs H Q => ∃ i j, xs = [.int i, .int j] ∧ Q (.int (g i j)) H) (o2 g) := by
  intro t F H T ds vs k Q wt r q f
  unfold o2 at q
  split at q
  · cases r with
    | cons r rr => cases rr with | cons r2 rr => cases rr; cases r; cases r2; exact ⟨_, _, rfl, f.val wt (.int _) q⟩
  · exact q.elim
/-- int(e) of an int, of a truth value -/
def oIntB (ds : List D) (k : D → Prop) : Prop := match ds with | [.int i] => k (.int i) | [.bl b] => k (.int (if b then 1 else 0)) | _ => False
theorem oIntB_ok {K : PySem.W.Frag} : BltS K (fun xs H Q => (∃ i, xs = [.int i] ∧ Q (.int i) H) ∨ ∃ k, xs = [.bl k] ∧ Q (.int (if k then 1 else 0)) H) oIntB := by
  intro t F H T ds vs k Q wt r q f
  unfold oIntB at q
  split at q
  · cases r with
    | cons r rr => cases rr; cases r; exact .inl ⟨_, rfl, f.val wt (.int _) q⟩
  · cases r with
    | cons r rr => cases rr; cases r; exact .inr ⟨_, rfl, f.val wt (.int _) q⟩
  · exact q.elim
/-! isqrt -/
theorem cr_isqrt : CallR X (.builtin "math.isqrt") (fun xs H Q => ∃ i : Int, xs = [.int i] ∧ (0 ≤ i ∧ i.natAbs < 2 ^ 13000) ∧ Q (.int ((Float64.isqrt i.toNat : Nat) : Int)) H) := by
  intro pins s σ H vs us Q I r h
  obtain ⟨i, rfl, ⟨h0, h1⟩, q⟩ := h
  obtain ⟨u, rfl, t, rfl⟩ := vals1 r
  have hl : i.toNat.log2 < 13000 := by
    have : i.toNat = i.natAbs := by omega
    rw [this]
    exact PySem.Flt.log2_lt_of (by decide) h1
  have h2 := PySem.W.mg_run_isqrt i t (by omega) (by omega) (by omega)
  exact call_function_meets PySem.W.MGF.kind_isqrt PySem.W.MGF.plain_isqrt PySem.W.MGF.entry_isqrt (PySem.W.MGF.args_isqrt _) h2.meets ⟨.int _, H, I.tok _, ⟨_, rfl⟩, q⟩
def oSqrt (ds : List D) (k : D → Prop) : Prop := match ds with | [.int i] => (0 ≤ i ∧ i.natAbs < 2 ^ 13000) ∧ k (.int ((Float64.isqrt i.toNat : Nat) : Int)) | _ => False
theorem oSqrt_ok {K : PySem.W.Frag} : BltS K (fun xs H Q => ∃ i : Int, xs = [.int i] ∧ (0 ≤ i ∧ i.natAbs < 2 ^ 13000) ∧ Q (.int ((Float64.isqrt i.toNat : Nat) : Int)) H) oSqrt := by
  intro t F H T ds vs k Q wt r q f
  unfold oSqrt at q
  split at q
  · cases r with
    | cons r rr => cases rr; cases r; exact ⟨_, rfl, q.1, f.val wt (.int _) q.2⟩
  · exact q.elim
/-! divmod -/
def DmOk (i j : Int) : Prop := 0 < j ∧ j.natAbs < 2 ^ 9000
def oDivmod (ds : List D) (k : D → Prop) : Prop := match ds with | [.int i, .int j] => DmOk i j ∧ k (.tup [.int (i / j), .int (i % j)]) | _ => False
theorem call_divmodQ : CallR X (.builtin "divmod") (fun xs H Q => ∃ i j, xs = [.int i, .int j] ∧ DmOk i j ∧ ∀ p, H p = none → Q (.ref p) (upd H p (.tup [.int (i / j), .int (i % j)]))) :=
  fun pins s σ H xs us Q I r ⟨i, j, e, c, q⟩ => call_divmodW pins s σ H xs us Q I r ⟨i, j, e, ⟨c.1, PyProof.noPylong_of_log2 (PySem.Flt.log2_lt_of (by decide) c.2)⟩, q⟩
theorem oDivmod_ok {K : PySem.W.Frag} : BltS K (fun xs H Q => ∃ i j, xs = [.int i, .int j] ∧ DmOk i j ∧ ∀ p, H p = none → Q (.ref p) (upd H p (.tup [.int (i / j), .int (i % j)]))) oDivmod := by
  intro t F H T ds vs k Q wt r q f
  unfold oDivmod at q
  split at q
  · cases r with
    | cons r rr => cases rr with | cons r2 rr => cases rr; cases r; cases r2; exact ⟨_, _, rfl, q.1, fun p hp => f.tup wt (.cons (.int _) (.cons (.int _) .nil)) hp q.2⟩
  · exact q.elim
/-! all, any, sum of a list -/
def bls? : List D → Option (List Bool)
  | [] => some [] | .bl b :: r => (bls? r).map (b :: ·) | _ :: _ => none
def nums? : List D → Option (List Int)
  | [] => some [] | .int b :: r => (nums? r).map (b :: ·) | _ :: _ => none
theorem bls_some : ∀ {ds : List D} {bs : List Bool}, bls? ds = some bs → ds = bs.map D.bl
  | [], bs, e => by cases e; rfl
  | d :: ds, bs, e => by
    have ih := fun cs => bls_some (ds := ds) (bs := cs)
    cases d with
    | bl b =>
      simp only [bls?, Option.map_eq_some_iff] at e
      obtain ⟨cs, h1, rfl⟩ := e
      rw [ih cs h1]
      rfl
    | _ => exact absurd e (by simp [bls?])
theorem bls_inv {K : PySem.W.Frag} {F : Hp} : ∀ {bs : List Bool} {vs : List V}, RepL K F (bs.map D.bl) vs → vs = bs.map V.bl
  | [], _, r => by cases r; rfl
  | b :: bs, _, r => by
    cases r with
    | cons r q => rw [rep_bl r, bls_inv q]; rfl
theorem bls_rep {K : PySem.W.Frag} {F : Hp} {ds : List D} {vs : List V} {bs : List Bool} (r : RepL K F ds vs) (e : bls? ds = some bs) : vs = bs.map V.bl := by
  rw [bls_some e] at r
  exact bls_inv r
theorem nums_some : ∀ {ds : List D} {bs : List Int}, nums? ds = some bs → ds = bs.map D.int
  | [], bs, e => by cases e; rfl
  | d :: ds, bs, e => by
    have ih := fun cs => nums_some (ds := ds) (bs := cs)
    cases d with
    | int b =>
      simp only [nums?, Option.map_eq_some_iff] at e
      obtain ⟨cs, h1, rfl⟩ := e
      rw [ih cs h1]
      rfl
    | _ => exact absurd e (by simp [nums?])
theorem nums_inv {K : PySem.W.Frag} {F : Hp} : ∀ {bs : List Int} {vs : List V}, RepL K F (bs.map D.int) vs → vs = bs.map V.int
  | [], _, r => by cases r; rfl
  | b :: bs, _, r => by
    cases r with
    | cons r q => rw [rep_int r, nums_inv q]; rfl
def oAll (ds : List D) (k : D → Prop) : Prop := match ds with | [.lst xs] => (match bls? xs with | some bs => k (.bl (bs.all _root_.id)) | none => False) | _ => False
theorem oAll_ok {K : PySem.W.Frag} : BltS K (rAll K) oAll := by
  intro t F H T ds vs k Q wt r q f
  unfold oAll at q
  split at q
  · split at q
    · rename_i e
      cases r with
      | cons r rr =>
        cases rr
        obtain ⟨a, ws, rfl, h, r⟩ := rep_lst r
        have e2 := bls_rep r e
        subst e2
        exact ⟨a, _, rfl, .of (wt.sub _ _ h), f.val wt (.bl _) q⟩
    · exact q.elim
  · exact q.elim
/-! tuple(xs), list(xs) -/
def oTuple (ds : List D) (k : D → Prop) : Prop := match ds with | [.lst xs] => k (.tup xs) | [.tup xs] => k (.tup xs) | _ => False
theorem oTuple_ok {K : PySem.W.Frag} : BltS K (fun xs H Q => ∃ p ys, xs = [.ref p] ∧ ((SqL K H p ys ∧ ∀ l, H l = none → Q (.ref l) (upd H l (.tup ys))) ∨ (SqT K H p ys ∧ Q (.ref p) H))) oTuple := by
  intro t F H T ds vs k Q wt r q f
  unfold oTuple at q
  split at q
  · cases r with
    | cons r rr =>
      cases rr
      obtain ⟨a, ws, rfl, h, r⟩ := rep_lst r
      exact ⟨a, ws, rfl, .inl ⟨.of (wt.sub _ _ h), fun l hl => f.tup wt r hl q⟩⟩
  · cases r with
    | cons r rr =>
      cases rr
      have r0 := r
      obtain ⟨a, ws, rfl, h, r⟩ := rep_tup r
      exact ⟨a, ws, rfl, .inr ⟨same_t wt.sub h, f.val wt r0 q⟩⟩
  · exact q.elim
/-! repr -/
def D.shOk (d : D) : Prop := d.eqOk ∧ d.py.showable = true ∧ d.py.shown.length ≤ sizeLine
def oRepr (ds : List D) (k : D → Prop) : Prop := match ds with | [.tup xs] => D.shOk (.tup xs) ∧ k (.str (D.py (.tup xs)).shown) | [.lst xs] => D.shOk (.lst xs) ∧ k (.str (D.py (.lst xs)).shown) | [.int i] => i.natAbs.log2 < 1920 ∧ k (.str (toString i)) | [.bl b] => k (.str (if b then "True" else "False")) | [.non] => k (.str "None") | _ => False
theorem call_reprD (hgd : X.A.guards = some []) (hu : X.A.units + 66 < cLine) : CallR X (.builtin "repr") (fun xs H Q => (∃ a d, xs = [.ref a] ∧ Dp X.K H (.ref a) d ∧ SeqAt.shaped d = true ∧ d.showable = true ∧ d.shown.length ≤ sizeLine ∧ Q (.str d.shown) H) ∨ ((∃ i, xs = [.int i] ∧ i.natAbs.log2 < 1920 ∧ Q (.str (toString i)) H) ∨ (∃ b : Bool, xs = [.bl b] ∧ Q (.str (if b then "True" else "False")) H) ∨ (xs = [.non] ∧ Q (.str "None") H))) := by
  intro pins s σ H xs us Q I r h
  rcases h with h | h
  · obtain ⟨a, d, rfl, hd, hs, hw, hl, q⟩ := h
    obtain ⟨u, rfl, ru⟩ := vals1 r
    obtain ⟨as, rd⟩ := Dp.reads I d _ u hd ru
    have e : u = Value.ref a := ru
    subst e
    have dl := SeqAt.depth_of_shaped hs
    refine repr_of_reads' rd hw (PyData.noDict_hsm (PyData.hasDict_of_canLay d (SeqAt.canLay_of_shaped hs))) hgd (by omega) (fun _ _ e => e) (fun h' u tk hk => ?_) hl
    exact ⟨.str _, H, I.kept (h' := h') (t' := tk) hk, ⟨_, rfl⟩, q⟩
  · rcases h with h | ⟨b, rfl, q⟩ | ⟨rfl, q⟩
    · exact SkE.call_repr_int pins s σ H xs us Q I r h
    · obtain ⟨u, rfl, ru⟩ := vals1 r
      cases ru
      exact PySem.P.repr_of_bool ⟨.str _, H, I.tok _, ⟨_, rfl⟩, q⟩
    · obtain ⟨u, rfl, ru⟩ := vals1 r
      cases ru
      exact PySem.P.repr_of_none ⟨.str _, H, I.tok _, ⟨_, rfl⟩, q⟩
theorem oRepr_ok {K : PySem.W.Frag} : BltS K (fun xs H Q => (∃ a d, xs = [.ref a] ∧ Dp K H (.ref a) d ∧ SeqAt.shaped d = true ∧ d.showable = true ∧ d.shown.length ≤ sizeLine ∧ Q (.str d.shown) H) ∨ ((∃ i, xs = [.int i] ∧ i.natAbs.log2 < 1920 ∧ Q (.str (toString i)) H) ∨ (∃ b : Bool, xs = [.bl b] ∧ Q (.str (if b then "True" else "False")) H) ∨ (xs = [.non] ∧ Q (.str "None") H))) oRepr := by
  intro t F H T ds vs k Q wt r q f
  unfold oRepr at q
  split at q
  · cases r with
    | cons r rr =>
      cases rr
      have r0 := r
      obtain ⟨a, ws, rfl, h, r⟩ := rep_tup r
      exact .inl ⟨a, _, rfl, r0.dp wt.sub q.1.1.1, q.1.1.2, q.1.2.1, q.1.2.2, f.val wt (.str _) q.2⟩
  · cases r with
    | cons r rr =>
      cases rr
      have r0 := r
      obtain ⟨a, ws, rfl, h, r⟩ := rep_lst r
      exact .inl ⟨a, _, rfl, r0.dp wt.sub q.1.1.1, q.1.1.2, q.1.2.1, q.1.2.2, f.val wt (.str _) q.2⟩
  · cases r with
    | cons r rr => cases rr; cases r; exact .inr (.inl ⟨_, rfl, q.1, f.val wt (.str _) q.2⟩)
  · cases r with
    | cons r rr => cases rr; cases r; exact .inr (.inr (.inl ⟨_, rfl, f.val wt (.str _) q⟩))
  · cases r with
    | cons r rr => cases rr; cases r; exact .inr (.inr (.inr ⟨rfl, f.val wt (.str _) q⟩))
  · exact q.elim
end
end L2.G

namespace L2.G
open PySem PySem.Spec PyProof.Rows

section
variable {X : Cx} {a b e : Expr} {fa fb fe : dE} {pos : Pos}
/-! slices -/
abbrev dP := En → Tk → (Option Int → Tk → Prop) → Prop
def tDO (K : PySem.W.Frag) (f : dP) : TO := fun σ H Q => ∃ ρ T t F k, Wd K ρ T t σ F H ∧ f ρ T k ∧ ∀ o H' F' T', Wt K T' t F' H' → Grow t F H F' H' → k o T' → Q o H'
abbrev POd (X : Cx) (e : Option Expr) (f : dP) : Prop := PO X e (tDO X.K f)
theorem po_imp {e : Option Expr} {t u : TO} (h : PO X e t) (i : ∀ σ H Q, u σ H Q → t σ H Q) : PO X e u := ⟨fun pins s σ H Q I q => h.run pins s σ H Q I (i _ _ _ q)⟩
theorem p_none : POd X none (fun _ T k => k none T) := by
  refine po_imp po_none fun σ H Q h => ?_
  obtain ⟨ρ, T, t, F, k, w, h, f⟩ := h
  exact f _ _ _ _ w.wt (Grow.refl _ _ _) h
def pSome (fe : dE) : dP := fun ρ T k => fe ρ T fun d T1 => match d with | .int i => k (some i) T1 | _ => False
theorem p_some (he : PEd X e fe) : POd X (some e) (pSome fe) := by
  refine po_imp (po_some he) fun σ H Q h => ?_
  obtain ⟨ρ, T, t, F, k, w, h, f⟩ := h
  refine ⟨ρ, T, t, F, _, w, h, fun v H1 F1 x T1 w1 g1 r1 h1 => ?_⟩
  split at h1
  · cases r1; exact ⟨_, rfl, f _ _ _ _ w1 g1 h1⟩
  · exact h1.elim
def cutD (xs : List D) (lo hi : Option Int) : List D := (xs.drop (HT.sIx xs.length 0 lo)).take (HT.sIx xs.length xs.length hi - HT.sIx xs.length 0 lo)
theorem cut_rep {K : PySem.W.Frag} {F : Hp} {ds : List D} {vs : List V} (r : RepL K F ds vs) (lo hi : Option Int) : RepL K F (cutD ds lo hi) (cutV vs lo hi) := by
  unfold cutD cutV
  rw [r.len]
  exact (r.drop _).take _
def dSl (fe : dE) (lo hi : dP) : dE := fun ρ T k => fe ρ T fun x T1 => lo ρ T1 fun l T2 => hi ρ T2 fun h T3 => match x with | .lst xs => k (.lst (cutD xs l h)) T3 | .scr xs => k (.lst (cutD xs l h)) T3 | .tup xs => k (.tup (cutD xs l h)) T3 | _ => False
theorem d_slice {lo hi : Option Expr} {fl fh : dP} {p2 : Pos} (he : PEd X e fe) (hl : POd X lo fl) (hh : POd X hi fh) : PEd X (.Subscript e (.Slice lo hi none p2) pos) (dSl fe fl fh) := by
  refine pe_imp (pe_slice (sl_list.or sl_tupA) he hl hh) fun σ H Q h => ?_
  obtain ⟨ρ, T, t, F, k, w, h, f⟩ := h
  refine ⟨ρ, T, t, F, _, w, h, fun v H1 F1 x T1 w1 g1 r1 h1 => ?_⟩
  refine ⟨ρ, T1, t, F1, _, w.grow g1 w1, h1, fun l H2 F2 T2 w2 g2 h2 => ?_⟩
  refine ⟨ρ, T2, t, F2, _, (w.grow g1 w1).grow g2 w2, h2, fun u H3 F3 T3 w3 g3 h3 => ?_⟩
  have r3 := (r1.mono g2.sub).mono g3.sub
  have f3 := f.then ((g1.trans g2).trans g3)
  split at h3
  · obtain ⟨p, vs, rfl, h, r⟩ := rep_lst r3
    exact .inl ⟨p, vs, rfl, .of (w3.sub _ _ h), fun q hq => f3.lst w3 (cut_rep r l u) hq h3⟩
  · obtain ⟨p, vs, rfl, h, r⟩ := rep_scr r3
    exact .inl ⟨p, vs, rfl, w3.sub.seq h, fun q hq => f3.lst w3 (cut_rep r l u) hq h3⟩
  · have r0 := r3
    obtain ⟨p, vs, rfl, h, r⟩ := rep_tup r3
    refine .inr ⟨p, vs, rfl, same_t w3.sub h, fun hw => ?_, fun _ q hq => f3.tup w3 (cut_rep r l u) hq h3⟩
    rename_i xs
    have e : cutD xs l u = xs := by
      unfold cutD
      rw [r.len, hw.1, hw.2, Nat.sub_zero, List.drop_zero, ← r.len, List.take_length]
    rw [e] at h3
    exact f3.val w3 r0 h3
  · exact h3.elim

/-! xs + ys, xs * n -/
def oCat : Op2 := fun x y k => match x, y with
  | .lst xs, .lst ys => xs.length + ys.length ≤ 1000000 ∧ k (.lst (xs ++ ys))
  | .tup xs, .tup ys => xs.length + ys.length ≤ 1000000 ∧ k (.tup (xs ++ ys))
  | .str s, .str u => s.length + u.length ≤ 1000000 ∧ k (.str (s ++ u))
  | _, _ => False
theorem oCat_ok {K : PySem.W.Frag} : OpS K (fun x y H Q => (rCat x y H Q ∨ rCatA K x y H Q) ∨ ∃ i j, x = .str i ∧ y = .str j ∧ i.length + j.length ≤ sizeLine ∧ Q (.str (i ++ j)) H) oCat := by
  intro t F H T x y v w k Q wt r1 r2 q f
  unfold oCat at q
  split at q
  · obtain ⟨a, vs, rfl, h1, r1⟩ := rep_lst r1
    obtain ⟨b, ws, rfl, h2, r2⟩ := rep_lst r2
    exact .inl (.inl ⟨a, b, vs, ws, rfl, rfl, wt.sub _ _ h1, wt.sub _ _ h2, by rw [← r1.len, ← r2.len]; exact small_line q.1, fun p hp => f.lst wt (r1.app r2) hp q.2⟩)
  · have p1 := r1
    have p2 := r2
    obtain ⟨a, vs, rfl, h1, r1⟩ := rep_tup r1
    obtain ⟨b, ws, rfl, h2, r2⟩ := rep_tup r2
    refine .inl (.inr ⟨a, b, vs, ws, rfl, rfl, same_t wt.sub h1, same_t wt.sub h2, by rw [← r1.len, ← r2.len]; exact small_line q.1, fun e => ?_, fun _ e => ?_, fun _ _ p hp => f.tup wt (r1.app r2) hp q.2⟩)
    · subst e
      cases r1
      exact f.val wt p2 q.2
    · subst e
      cases r2
      rw [List.append_nil] at q
      exact f.val wt p1 q.2
  · cases r1
    cases r2
    exact .inr ⟨_, _, rfl, rfl, small_line q.1, f.val wt (.str _) q.2⟩
  · exact q.elim
/-! in -/
/-! isinstance(e, T), T a built-in type -/
def D.ty : D → String
  | .non => "NoneType" | .bl _ => "bool" | .int _ => "int" | .str _ => "str" | .tup _ => "tuple" | .lst _ => "list" | .scr _ => "list" | .obj _ _ _ => "" | .ref _ => "" | .dct _ _ => "dict"
inductive Ty where | int | bool | str | tuple | list
def Ty.name : Ty → String | .int => "int" | .bool => "bool" | .str => "str" | .tuple => "tuple" | .list => "list"
def isTy : Ty → D → Option Bool
  | _, .obj _ _ _ => none
  | _, .ref _ => none
  | .int, .int _ => some true
  | .int, .bl _ => some true
  | .bool, .bl _ => some true
  | .str, .str _ => some true
  | .tuple, .tup _ => some true
  | .list, .lst _ => some true
  | .list, .scr _ => some true
  | _, _ => some false
theorem isTy_kit {T : Ty} {d : D} {r : Bool} (h : isTy T d = some r) : kitB d.ty T.name = some r := by
  cases T <;> cases d <;> simp [isTy] at h <;> subst h <;> simp only [D.ty, Ty.name] <;> decide +kernel
theorem rep_ty {K : PySem.W.Frag} {F H : Hp} (s : Same F H) {d : D} {v : V} (r : Rep K F d v) (h1 : ∀ C ns vs, d ≠ .obj C ns vs) (h2 : ∀ a, d ≠ .ref a) : TyX K H v (.type d.ty) := by
  cases r with
  | non => exact .base .non
  | bl b => exact .base (.bl b)
  | int i => exact .base (.int i)
  | str x => exact .base (.str x)
  | tup h _ =>
    rcases h with (h | ⟨o, h⟩) | ⟨o, its, n, h, c, _⟩
    · exact .base (.tup (s _ _ h))
    · exact .fTuple (s _ _ h)
    · exact .kTuple h c
  | lst h _ => exact .base (.lst (s _ _ h))
  | scr h _ =>
    rcases h with (h | ⟨o, h⟩) | ⟨o, its, n, h, c, _⟩
    · exact .base (.lst (s _ _ h))
    · exact .base (.frz (s _ _ h))
    · exact .kList h c
  | dct h _ _ => exact .base (.dK (s _ _ h))
  | obj _ _ _ => exact absurd rfl (h1 _ _ _)
  | ref a _ => exact absurd rfl (h2 a)
def dIsi (T : Ty) (fe : dE) : dE := fun ρ S k => fe ρ S fun d S1 => match isTy T d with | some r => k (.bl r) S1 | none => False
theorem d_isi (T' : Ty) {T : Str} {p p2 : Pos} (he : PEd X e fe) (hm : X.mg "isinstance" = none) (hmT : X.mg T = none) (hv : bootBuiltins T = some (.type T'.name) := by decide +kernel) (hg : Gl X "isinstance" := by rfl) (hgT : Gl X T := by rfl) (hn : T ≠ "__name__" := by decide) (hd : (T == ("__debug__" : Str)) = false := by decide)
    (hs : starEach [e, .Name T p2] X.env = (false, eval e X.env) :: starEach [.Name T p2] X.env := by rfl) (hp : (backTo pos (starEach [.Name T p2] X.env)).any (·.1) = false := by rfl) :
    PEd X (.Call (.Name "isinstance" p) [e, .Name T p2] [] pos) (dIsi T' fe) := by
  refine pe_imp (pe_callB call_isi hg hm (by decide +kernel) (pa_cons he (pa_cons (pe_bltn (v := .ty T'.name) hgT hmT hv rfl hn hd) pa_nil) hs) (by decide) (by decide) hs hp) fun σ H Q h => ?_
  obtain ⟨ρ, S, t, F, k, w, h, f⟩ := h
  refine ⟨ρ, S, t, F, _, w, h, fun v H1 F1 d S1 w1 g1 r1 h1 => ?_⟩
  split at h1
  · rename_i r e
    refine ⟨v, .ty T'.name, _, _, r, rfl, .ty T'.name, rep_ty w1.sub r1 (fun C ns vs z => ?_) (fun a z => ?_), kit_ty (isTy_kit e), (f.then g1).val w1 (.bl _) h1⟩
    · subst z; simp [isTy] at e
    · subst z; simp [isTy] at e
  · exact h1.elim
end

/-! lists of the def's own -/
section
variable {X : Cx} {e : Expr} {es : List Expr} {fe : dE} {fr : dA} {pos : Pos} {st : Stmt} {f : dS}
theorem Ws.own {K : PySem.W.Frag} {ρ : En} {T : Tk} {t : Option Addr} {σ : L2.St} {F0 H0 F H : Hp} (w : Ws K ρ T t σ F0 H0 F H) {i : Nat} {l : Addr} {xs : List D} {vs : List V} (hn : H l = none) (r : RepL K F xs vs) :
    Ws K (ρ.set i (some (.own xs))) T t (σ.set i (some (.ref l))) F0 H0 F (upd H l (.lst vs)) := by
  have hF : F l = none := w.w.wt.sub.free hn
  have g : Grow t F H F (upd H l (.lst vs)) := grow_own w.w.wt.sub hn
  have w1 := w.grow g (wt_own w.w.wt hn)
  have hl0 : H0 l = none := by
    cases q : H0 l with
    | none => rfl
    | some o => obtain ⟨o', h'⟩ := w.g.there l o q; rw [hn] at h'; cases h'
  have old : ∀ (j : Nat) (ys : List D) (m : Addr), ρ[j]? = some (some (SV.own ys)) → σ[j]? = some (some (V.ref m)) → m ≠ l := fun j ys m e1 e2 => by
    obtain ⟨v, h1, l', ws, rfl, _, h3, _, _⟩ := w.w.slot j _ e1
    rw [e2] at h1
    cases h1
    exact ne_of_none h3 hn
  refine ⟨⟨w1.w.wt, by simpa using w.w.len, fun j s e => ?_, fun j j' ys zs m e1 e2 e3 e4 => ?_⟩, w1.g, fun j ys m e1 e2 => ?_⟩
  · rcases getSet e with ⟨rfl, hl, e'⟩ | ⟨ne, e'⟩
    · cases e'
      refine ⟨.ref l, by rw [List.getElem?_set_self (by rw [← w.w.len]; exact hl)], l, vs, rfl, hF, upd_same, r, fun z => ?_⟩
      obtain ⟨_, us, hu, _⟩ := w.w.wt.tank l z
      rw [hn] at hu
      cases hu
    · obtain ⟨u, h1, h2⟩ := w1.w.slot j s e'
      exact ⟨u, by rw [List.getElem?_set_ne ne]; exact h1, h2⟩
  · rcases getSet e1 with ⟨rfl, hl1, _⟩ | ⟨n1, e1⟩
    · rcases getSet e2 with ⟨rfl, _, _⟩ | ⟨n2, e2⟩
      · rfl
      · rw [List.getElem?_set_self (by rw [← w.w.len]; exact hl1)] at e3
        cases e3
        rw [List.getElem?_set_ne n2] at e4
        exact absurd rfl (old j' zs _ e2 e4)
    · rw [List.getElem?_set_ne n1] at e3
      rcases getSet e2 with ⟨rfl, hl2, _⟩ | ⟨n2, e2⟩
      · rw [List.getElem?_set_self (by rw [← w.w.len]; exact hl2)] at e4
        cases e4
        exact absurd rfl (old j ys _ e1 e3)
      · rw [List.getElem?_set_ne n2] at e4
        exact w.w.apart j j' ys zs m e1 e2 e3 e4
  · rcases getSet e1 with ⟨rfl, hl1, _⟩ | ⟨n1, e1⟩
    · rw [List.getElem?_set_self (by rw [← w.w.len]; exact hl1)] at e2
      cases e2
      exact hl0
    · rw [List.getElem?_set_ne n1] at e2
      exact w.fr j ys m e1 e2
/-- x = [..], x a list that this def will change -/
def sOwn (i : Nat) (fr : dA) : dS := fun k ρ T => fr ρ T fun as T1 => match vals? as with | some ds => ds.length ≤ 1000000 ∧ k.nx (ρ.set i (some (.own ds))) T1 | none => False
theorem s_own (i : Nat) {x : Str} {pos' lp : Pos} (hN : X.N.Nodup) (ha : PAd X es fr) (hi : X.N[i]? = some x := by rfl) (hx : Loc X.env.scope x := by first | exact Or.inl rfl | exact Or.inr rfl) (hs : swapsWith (.List es lp) (some (.Name x pos')) pos.line X.env = pure false := by rfl)
    (hf : X.fn x = true ∨ X.env.scope.names.lookup x = some .local := by first | exact .inl rfl | exact .inr rfl | assumption) : PSd X (.Assign [.Name x pos'] (.List es lp) pos) (sOwn i fr) := by
  refine ps_imp (ps_set hN hi hx (pe_lst ha) hs hf) fun E σ H h => ?_
  obtain ⟨ρ, T, t, F0, H0, F, k, w, h, fe⟩ := h
  refine ⟨ρ, T, t, F, _, w.w, h, fun vs H1 F1 as T1 w1 g1 r1 h1 => ?_⟩
  split at h1
  · rename_i ds e
    have r := r1.vals e
    exact ⟨by rw [← r.len]; exact small_line h1.1, fun p hp => fe.nx _ _ _ _ _ ((w.grow g1 w1).own hp r) g1.sub h1.2⟩
  · exact h1.elim
/-- it will not be changed any more -/
def sFrz (i : Nat) (f : dS) : dS := fun k ρ T => match ρ[i]? with | some (some (.own xs)) => f k (ρ.set i (some (.val (.lst xs)))) T | _ => False
theorem Ws.frz {K : PySem.W.Frag} {ρ : En} {T : Tk} {t : Option Addr} {σ : L2.St} {F0 H0 F H : Hp} (w : Ws K ρ T t σ F0 H0 F H) {i : Nat} {xs : List D} (e : ρ[i]? = some (some (.own xs))) :
    ∃ F', Same F F' ∧ Ws K (ρ.set i (some (.val (.lst xs)))) T t σ F0 H0 F' H := by
  obtain ⟨v, hv, l, vs, rfl, hF, hH, r, nt⟩ := w.w.slot i _ e
  have sm : Same F (upd F l (.lst vs)) := same_upd hF
  have sub : Same (upd F l (.lst vs)) H := fun b u q => by
    by_cases hb : b = l
    · subst hb; rw [upd_same] at q; cases q; exact hH
    · rw [upd_ne hb] at q; exact w.w.wt.sub b u q
  have wt : Wt K T t (upd F l (.lst vs)) H := ⟨sub, fun a ea => by
    obtain ⟨n, us, hu, ru⟩ := w.w.wt.tank a ea
    have ne : a ≠ l := fun z => nt (by rw [ea, z])
    exact ⟨by rw [upd_ne ne]; exact n, us, hu, ru.mono sm⟩, w.w.wt.tabs.frz hH⟩
  refine ⟨_, sm, ⟨wt, by simpa using w.w.len, fun j s ej => ?_, fun j j' ys zs m e1 e2 e3 e4 => ?_⟩, ⟨w.g.sub.trans sm, w.g.keepT, fun a o h0 n0 => ?_, w.g.there⟩, fun j ys m e1 e2 => ?_⟩
  · rcases getSet ej with ⟨rfl, _, e'⟩ | ⟨ne, e'⟩
    · cases e'
      exact ⟨.ref l, hv, .lst upd_same (r.mono sm)⟩
    · obtain ⟨u, h1, h2⟩ := w.w.slot j s e'
      refine ⟨u, h1, ?_⟩
      cases s with
      | val d => exact Rep.mono sm h2
      | tank => exact h2
      | exc _ _ => exact ⟨h2.1, fun dd fl x q => let ⟨n, u, f1, r1⟩ := h2.2 dd fl x q; ⟨n, u, f1, r1.mono sm⟩⟩
      | fn _ _ _ => exact h2
      | ptup _ => obtain ⟨a, o, us, e, hf, c1, c2, r⟩ := h2; exact ⟨a, o, us, e, sm _ _ hf, c1, c2, r.mono sm⟩
      | own ys =>
        obtain ⟨m, us, rfl, f1, f2, f3, f4⟩ := h2
        have nm : m ≠ l := fun z => ne (w.w.apart i j xs ys l e e' hv (z ▸ h1))
        exact ⟨m, us, rfl, by rw [upd_ne nm]; exact f1, f2, f3.mono sm, f4⟩
  · rcases getSet e1 with ⟨_, _, z⟩ | ⟨n1, e1⟩
    · cases z
    · rcases getSet e2 with ⟨_, _, z⟩ | ⟨n2, e2⟩
      · cases z
      · exact w.w.apart j j' ys zs m e1 e2 e3 e4
  · have ne : a ≠ l := fun z => by
      have q := w.fr i xs l e hv
      rw [z, q] at h0
      cases h0
    rw [upd_ne ne]
    exact w.g.new a o h0 n0
  · rcases getSet e1 with ⟨_, _, z⟩ | ⟨n1, e1⟩
    · cases z
    · exact w.fr j ys m e1 e2
theorem Ws.chg {K : PySem.W.Frag} {ρ : En} {T : Tk} {t : Option Addr} {σ : L2.St} {F0 H0 F H : Hp} (w : Ws K ρ T t σ F0 H0 F H) {i : Nat} {xs ys : List D} {l : Addr} {ws : List V} (e : ρ[i]? = some (some (.own xs))) (hv : σ[i]? = some (some (.ref l))) (r : RepL K F ys ws) :
    Ws K (ρ.set i (some (.own ys))) T t σ F0 H0 F (upd H l (.lst ws)) := by
  obtain ⟨v, hv2, l2, vs, rfl, hF, hH, r0, nt⟩ := w.w.slot i _ e
  rw [hv] at hv2
  cases hv2
  have ne_t : ∀ a, t = some a → a ≠ l := fun a ea z => nt (by rw [ea, z])
  refine ⟨⟨⟨fun b u q => ?_, fun a ea => ?_, w.w.wt.tabs.chg hH⟩, by simpa using w.w.len, fun j s ej => ?_, fun j j' ys' zs m e1 e2 e3 e4 => ?_⟩, ⟨w.g.sub, fun a o h0 n0 z0 => ?_, w.g.new, fun a o h0 => ?_⟩, fun j ys' m e1 e2 => ?_⟩
  · have ne : b ≠ l := fun z => by rw [z, hF] at q; cases q
    rw [upd_ne ne]
    exact w.w.wt.sub b u q
  · obtain ⟨n, us, hu, ru⟩ := w.w.wt.tank a ea
    exact ⟨n, us, by rw [upd_ne (ne_t a ea)]; exact hu, ru⟩
  · rcases getSet ej with ⟨rfl, _, e'⟩ | ⟨ne, e'⟩
    · cases e'
      exact ⟨.ref l, hv, l, ws, rfl, hF, upd_same, r, nt⟩
    · obtain ⟨u, h1, h2⟩ := w.w.slot j s e'
      refine ⟨u, h1, ?_⟩
      cases s with
      | val d => exact h2
      | tank => exact h2
      | exc _ _ => exact ⟨h2.1, fun dd fl x q => let ⟨n, u, f1, r1⟩ := h2.2 dd fl x q; ⟨n, u, by rw [upd_ne (fun z => by rw [z, hH] at f1; cases f1)]; exact f1, r1⟩⟩
      | ptup _ => exact h2
      | fn _ c _ => exact ⟨h2.1, by rw [upd_ne (fun z => by have f1 := h2.2.1; rw [z, hH] at f1; cases f1)]; exact h2.2.1, h2.2.2⟩
      | own zs =>
        obtain ⟨m, us, rfl, f1, f2, f3, f4⟩ := h2
        have nm : m ≠ l := fun z => ne (w.w.apart i j xs zs l e e' hv (z ▸ h1))
        exact ⟨m, us, rfl, f1, by rw [upd_ne nm]; exact f2, f3, f4⟩
  · have back : ∀ {j : Nat} {zs : List D}, (ρ.set i (some (.own ys)))[j]? = some (some (.own zs)) → ∃ zs', ρ[j]? = some (some (.own zs')) := fun {j zs} q => by
      rcases getSet q with ⟨rfl, _, _⟩ | ⟨_, q⟩
      · exact ⟨_, e⟩
      · exact ⟨_, q⟩
    obtain ⟨_, q1⟩ := back e1
    obtain ⟨_, q2⟩ := back e2
    exact w.w.apart j j' _ _ m q1 q2 e3 e4
  · have ne : a ≠ l := fun z => by
      have q := w.fr i xs l e hv
      rw [z, q] at h0
      cases h0
    rw [upd_ne ne]
    exact w.g.keep a o h0 n0 z0
  · have ne : a ≠ l := fun z => by
      have q := w.fr i xs l e hv
      rw [z, q] at h0
      cases h0
    rw [upd_ne ne]
    exact w.g.there a o h0
  · rcases getSet e1 with ⟨rfl, _, _⟩ | ⟨_, e1⟩
    · exact w.fr i xs m e e2
    · exact w.fr j ys' m e1 e2
/-- x.append(e) -/
def sApp (i : Nat) (fe : dE) : dS := fun k ρ T => match ρ[i]? with | some (some (.own xs)) => fe ρ T fun d T1 => xs.length < 1000000 ∧ k.nx (ρ.set i (some (.own (xs ++ [d])))) T1 | _ => False
theorem s_app (i : Nat) {x : Str} {p1 p2 p3 p4 : Pos} (he : PEd X e fe) (hN : X.N[i]? = some x := by rfl) (hv : Vis X.env.scope x := by first | exact Or.inl rfl | exact Or.inr (Or.inl rfl) | exact Or.inr (Or.inr rfl))
    (hd : (x == ("__debug__" : Str)) = false := by decide) (hc : (x == ("__classdict__" : Str)) = false := by decide)
    (h1 : starEach [e] X.env = (false, eval e X.env) :: starEach [] X.env := by rfl) (h2 : attributeBase (.Name x p1) "append" X.env (eval (.Name x p1) X.env) = eval (.Name x p1) X.env := by rfl) (h3 : (p2.endLine == p3.line) = true := by rfl)
    (hs : swapsWith (.Call (.Attribute (.Name x p1) "append" p2) [e] [] p3) none p4.line X.env = pure false := by rfl)
    (hfew : ((backTo p3 (starEach [e] X.env)).all (fun x => !x.1) && (backToKw p3 (keywordEach [] X.env)).all (fun x => x.1.isSome) && decide (([e] : List Expr).length + ([] : List Keyword).length + (if ([] : List Keyword).isEmpty then 0 else 1) < 30)) = true := by rfl) :
    PSd X (.Expr (.Call (.Attribute (.Name x p1) "append" p2) [e] [] p3) p4) (sApp i fe) := by
  refine ps_imp (ps_expr (pe_bm PySem.F.plainAttrs_list PySem.F.slot_list_append PySem.F.type_list_append mt_append (pe_var (i := i) hN hv hd hc) (pa_cons he pa_nil h1) h2 hfew h3 h1) hs) fun E σ H h => ?_
  obtain ⟨ρ, T, t, F0, H0, F, k, w, h, fE⟩ := h
  unfold sApp at h
  split at h
  · rename_i xs e0
    obtain ⟨v, hv, l, vs, rfl, hF, hH, r, nt⟩ := w.w.slot i _ e0
    refine ⟨_, hv, .inl ⟨rfl, _, .of hH⟩, ρ, T, t, F, _, w.w, h, fun u H1 F1 d T1 w1 g1 r1 h1 => ?_⟩
    have hH1 := g1.keep _ _ hH nt
    have r' := (r.mono g1.sub).app (.cons r1 .nil)
    refine ⟨l, vs, u, rfl, rfl, hH1, by rw [← r.len, sizeLine_eq]; omega, ?_⟩
    exact fE.nx _ _ _ _ _ ((w.grow g1 w1).chg e0 hv r') g1.sub h1.2
  · exact h.elim
end
end L2.G

namespace L2.G
open PySem PySem.Spec PyProof.Rows

/-! what is walked -/
structure Src (K : PySem.W.Frag) (t : Option Addr) (J : It) (F1 : Hp) (xs : List D) : Prop where
  go : ∀ i F H, Same F1 F → Same F H → i < xs.length → J.go i H
  yl : ∀ i T F H x H', Same F1 F → Wt K T t F H → i < xs.length → J.yld i H x H' → ∃ F' d, xs[i]? = some d ∧ Rep K F' d x ∧ Grow t F H F' H' ∧ Wt K T t F' H'
  st : ∀ F H, Same F1 F → Same F H → J.stop xs.length H
abbrev dI := En → Tk → (List D → Tk → Prop) → Prop
def tDI (K : PySem.W.Frag) (f : dI) : TI := fun σ H R => ∃ ρ T t F k, Wd K ρ T t σ F H ∧ f ρ T k ∧ ∀ J H' F' xs T', Wt K T' t F' H' → Grow t F H F' H' → Src K t J F' xs → xs.length ≤ 1000000 → k xs T' → R J H'
abbrev PId (X : Cx) (tg it : Expr) (f : dI) : Prop := PI X tg it (tDI X.K f)
theorem pi_imp {X : Cx} {tg e : Expr} {t u : TI} (h : PI X tg e t) (i : ∀ σ H Q, u σ H Q → t σ H Q) : PI X tg e u := ⟨fun pins s σ H Q I q => h.run pins s σ H Q I (i _ _ _ q)⟩

section
variable {X : Cx} {tg e e2 : Expr} {fe : dE} {fr : dA} {p pos : Pos} {f : dS}
theorem src_list {K : PySem.W.Frag} {t : Option Addr} {F1 : Hp} {a : Addr} {xs : List D} {vs : List V} (h : F1 a = some (.lst vs)) (r : RepL K F1 xs vs) : Src K t (Itl K a) F1 xs where
  go := fun i F H s1 s2 hi => by
    rw [r.len] at hi
    exact ⟨vs, vs[i], .of (s2 _ _ (s1 _ _ h)), by simp [hi]⟩
  yl := fun i T F H x H' s1 w hi y => by
    obtain ⟨rfl, y⟩ := y
    obtain ⟨d, hd, rd⟩ := r.getV (y vs (.of (w.sub _ _ (s1 _ _ h))))
    exact ⟨F, d, hd, rd.mono s1, Grow.refl _ _ _, w⟩
  st := fun F H s1 s2 => ⟨vs, .of (s2 _ _ (s1 _ _ h)), by rw [r.len]; exact Nat.le_refl _⟩
theorem src_tup {K : PySem.W.Frag} {t : Option Addr} {F1 : Hp} {a : Addr} {xs : List D} {vs : List V} (h : SqT K F1 a vs) (r : RepL K F1 xs vs) : Src K t (Itt K a) F1 xs where
  go := fun i F H s1 s2 hi => by
    rw [r.len] at hi
    exact ⟨vs, vs[i], same_t (s1.trans s2) h, by simp [hi]⟩
  yl := fun i T F H x H' s1 w hi y => by
    obtain ⟨rfl, y⟩ := y
    obtain ⟨d, hd, rd⟩ := r.getV (y vs (same_t (s1.trans w.sub) h))
    exact ⟨F, d, hd, rd.mono s1, Grow.refl _ _ _, w⟩
  st := fun F H s1 s2 => ⟨vs, same_t (s1.trans s2) h, by rw [r.len]; exact Nat.le_refl _⟩
theorem src_rng {K : PySem.W.Frag} {t : Option Addr} {F1 : Hp} {lo : Int} {n : Nat} : Src K t (Itr lo n) F1 (intsL lo n) where
  go := fun i F H s1 s2 hi => by rw [intsL_len] at hi; exact hi
  yl := fun i T F H x H' s1 w hi y => by
    rw [intsL_len] at hi
    obtain ⟨rfl, rfl⟩ := y
    exact ⟨F, _, intsL_get n lo i hi, .int _, Grow.refl _ _ _, w⟩
  st := fun F H s1 s2 => by rw [intsL_len]; exact Nat.le_refl n
def iR1 (fr : dA) : dI := fun ρ T k => fr ρ T fun as T1 => match as with | [.val (.int j)] => j ≤ 1000000 ∧ -(2 ^ 62) ≤ j ∧ k (intsL 0 j.toNat) T1 | _ => False
def iR2 (fr : dA) : dI := fun ρ T k => fr ρ T fun as T1 => match as with | [.val (.int i), .val (.int j)] => (j - i ≤ 1000000 ∧ -(2 ^ 61) ≤ i ∧ i < 2 ^ 61 ∧ -(2 ^ 61) ≤ j ∧ j < 2 ^ 61) ∧ k (intsL i (j - i).toNat) T1 | _ => False
theorem i_range1 {a : Expr} (hm : X.mg "range" = none) (ha : PAd X [a] fr) (hg : Gl X "range" := by rfl) (hs : starEach [a] X.env = [(false, eval a X.env)] := by rfl) : PId X tg (.Call (.Name "range" p) [a] [] pos) (iR1 fr) := by
  refine pi_imp (pi_range1 hg hm ha hs) fun σ H R h => ?_
  obtain ⟨ρ, T, t, F, k, w, h, f⟩ := h
  refine ⟨ρ, T, t, F, _, w, h, fun vs H1 F1 as T1 w1 g1 r1 h1 => ?_⟩
  split at h1
  · rename_i j
    cases r1 with
    | val r1 rr =>
      cases rr
      cases r1
      exact ⟨j, rfl, h1.2.1, by have := h1.1; omega, f _ _ _ _ _ w1 g1 src_rng (by rw [intsL_len]; have := h1.1; omega) h1.2.2⟩
  · exact h1.elim
theorem i_range2 {a b : Expr} (hm : X.mg "range" = none) (ha : PAd X [a, b] fr) (hg : Gl X "range" := by rfl) (hs : starEach [a, b] X.env = [(false, eval a X.env), (false, eval b X.env)] := by rfl) (hs2 : starEach [b] X.env = [(false, eval b X.env)] := by rfl) : PId X tg (.Call (.Name "range" p) [a, b] [] pos) (iR2 fr) := by
  refine pi_imp (pi_range2 hg hm ha hs hs2) fun σ H R h => ?_
  obtain ⟨ρ, T, t, F, k, w, h, f⟩ := h
  refine ⟨ρ, T, t, F, _, w, h, fun vs H1 F1 as T1 w1 g1 r1 h1 => ?_⟩
  split at h1
  · rename_i i j
    cases r1 with
    | val r1 rr =>
      cases rr with
      | val r2 rr =>
        cases rr
        cases r1
        cases r2
        obtain ⟨⟨q1, q2, q3, q4, q5⟩, q6⟩ := h1
        exact ⟨i, j, rfl, ⟨by omega, by omega, by omega, by omega⟩, f _ _ _ _ _ w1 g1 src_rng (by rw [intsL_len]; omega) q6⟩
  · exact h1.elim
/-- zip of two lists of one length -/
def zipD (xs ys : List D) : List D := List.zipWith (fun x y => D.tup [x, y]) xs ys
theorem src_zip {K : PySem.W.Frag} {t : Option Addr} {F1 : Hp} {a b : Addr} {xs ys : List D} {vs ws : List V} (ha : F1 a = some (.lst vs)) (hb : F1 b = some (.lst ws)) (r : RepL K F1 xs vs) (q : RepL K F1 ys ws) : Src K t (Itz K a b) F1 (zipD xs ys) where
  go := fun i F H s1 s2 hi => by
    simp only [zipD, List.length_zipWith] at hi
    have h1 : i < vs.length := by rw [← r.len]; omega
    have h2 : i < ws.length := by rw [← q.len]; omega
    exact ⟨vs, ws, vs[i], ws[i], .of (s2 _ _ (s1 _ _ ha)), .of (s2 _ _ (s1 _ _ hb)), by simp [h1], by simp [h2]⟩
  yl := fun i T F H x H' s1 w hi y => by
    obtain ⟨tt, u, v, rfl, hn, rfl, y1, y2⟩ := y
    obtain ⟨d1, e1, r1⟩ := r.getV (y1 vs (.of (w.sub _ _ (s1 _ _ ha))))
    obtain ⟨d2, e2, r2⟩ := q.getV (y2 ws (.of (w.sub _ _ (s1 _ _ hb))))
    have sm := same_upd (o := .tup [u, v]) (w.sub.free hn)
    exact ⟨upd F tt (.tup [u, v]), .tup [d1, d2], by simp [zipD, List.getElem?_zipWith, e1, e2], .tup (.of upd_same) ((RepL.cons (r1.mono s1) (.cons (r2.mono s1) .nil)).mono sm), grow_new w.sub hn, wt_new w hn⟩
  st := fun F H s1 s2 => ⟨vs, ws, .of (s2 _ _ (s1 _ _ ha)), .of (s2 _ _ (s1 _ _ hb)), by
    simp only [zipD, List.length_zipWith]
    rw [r.len, q.len]
    omega⟩
def iZ (fr : dA) : dI := fun ρ T k => fr ρ T fun as T1 => match as with | [.val (.lst xs), .val (.lst ys)] => (zipD xs ys).length ≤ 1000000 ∧ k (zipD xs ys) T1 | _ => False
/-! for -/
def sForI (fi : dI) (g : dG) (f : dS) : dS := fun k ρ T => fi ρ T fun xs T1 => forL g f k xs ρ T1
theorem s_forI {body : List Stmt} {g : dG} {fi : dI} (hp : PassesOwn (model X.prog X.w) X.A X.env X.xe) (hc : X.calm = true) (hi : PId X tg e fi) (hg : PGd X tg g) (hb : PSsd X body f) (hst : ∀ x, foldedSetIterable e X.env x = pure x := by intro _; rfl) : PSd X (.For tg e body [] pos) (sForI fi g f) := by
  refine ps_imp (ps_for hp hc hi hg hb hst) fun E σ H h => ?_
  obtain ⟨ρ, T, t, F0, H0, F, k, w, h, fE⟩ := h
  refine ⟨ρ, T, t, F, _, w.w, h, fun J H1 F1 xs T1 w1 g1 src hl h1 => ?_⟩
  refine ⟨fun i m σ' H' => m = xs.length - i ∧ i ≤ xs.length ∧ ∃ ρ' T' F', Ws X.K ρ' T' t σ' F0 H0 F' H' ∧ Same F1 F' ∧ forL g f k (xs.drop i) ρ' T', ⟨xs.length, by simp, Nat.zero_le _, ρ, T1, F1, w.grow g1 w1, Same.refl _, h1⟩, ?_⟩
  rintro i m σ' H' ⟨rfl, hi, ρ', T', F', w', s', hh⟩
  by_cases lt : i < xs.length
  · refine .inr ⟨src.go i F' H' s' w'.w.wt.sub lt, fun σ2 H2 => ∃ ρ' T' F', Ws X.K ρ' T' t σ2 F0 H0 F' H2 ∧ Same F1 F' ∧ forL g f k (xs.drop (i + 1)) ρ' T', fun σ2 H2 q => ⟨xs.length - (i + 1), by omega, rfl, lt, q⟩, fun x H2 y => ?_⟩
    obtain ⟨F2, d, hd, rd, g2, w2⟩ := src.yl i T' F' H' x H2 s' w'.w.wt lt y
    have hx : xs.drop i = d :: xs.drop (i + 1) := by rw [List.drop_eq_getElem_cons lt, (List.getElem?_eq_some_iff.mp hd).2]
    rw [hx] at hh
    have sF := (g1.sub.trans s').trans g2.sub
    refine ⟨ρ', T', t, F0, H0, F2, d, _, w'.grow g2 w2, rd, hh, fun ρ3 T3 σ3 F3 H3 w3 s3 h3 => ?_⟩
    have s3' := (s'.trans g2.sub).trans s3
    refine ⟨ρ3, T3, t, F0, H0, F3, _, w3, h3, ?_⟩
    exact ⟨fun ρ4 T4 σ4 F4 H4 w4 s4 q => ⟨ρ4, T4, F4, w4, s3'.trans s4, q⟩, fE.rt, fE.nx.to (sF.trans s3), fun ρ4 T4 σ4 F4 H4 w4 s4 q => ⟨ρ4, T4, F4, w4, s3'.trans s4, q⟩⟩
  · have e : i = xs.length := by omega
    subst e
    rw [List.drop_length] at hh
    exact .inl ⟨src.st F' H' s' w'.w.wt.sub, fE.nx _ _ _ _ _ w' (g1.sub.trans s') hh⟩

/-! comprehensions -/
theorem wipe_get : ∀ {vs : List Nat} {σ : L2.St} {j : Nat}, (wipe σ vs)[j]? = if j ∈ vs ∧ j < σ.length then some none else σ[j]?
  | [], σ, j => by simp [wipe]
  | v :: vs, σ, j => by
    unfold wipe
    by_cases e : v = j
    · subst e
      by_cases hl : v < σ.length
      · rw [List.getElem?_set_self (by rw [wipe_length]; exact hl), if_pos ⟨List.mem_cons_self, hl⟩]
      · rw [List.getElem?_eq_none (by rw [List.length_set, wipe_length]; omega), if_neg (fun z => hl z.2), List.getElem?_eq_none (by omega)]
    · rw [List.getElem?_set_ne e, wipe_get]
      have : (j ∈ v :: vs) ↔ j ∈ vs := by simp [Ne.symm e]
      simp only [this]
theorem wipe_set {vs : List Nat} {σ : L2.St} {i : Nat} {v : Option V} (h : i ∈ vs) : wipe (σ.set i v) vs = wipe σ vs := by
  apply List.ext_getElem?
  intro j
  rw [wipe_get, wipe_get, List.length_set]
  by_cases e : i = j
  · subst e
    by_cases hl : i < σ.length
    · rw [if_pos ⟨h, hl⟩, if_pos ⟨h, hl⟩]
    · rw [if_neg (fun z => hl z.2), if_neg (fun z => hl z.2), List.getElem?_eq_none (by simpa using hl), List.getElem?_eq_none (by simpa using hl)]
  · rw [List.getElem?_set_ne e]
theorem wipe_idem {vs : List Nat} {σ : L2.St} : wipe (wipe σ vs) vs = wipe σ vs := by
  apply List.ext_getElem?
  intro j
  rw [wipe_get, wipe_get, wipe_length]
  split
  · rfl
  · rfl
def wipeD (ρ : En) : List Nat → En
  | [] => ρ
  | v :: vs => (wipeD ρ vs).set v none
theorem wd_none {K : PySem.W.Frag} {ρ : En} {T : Tk} {t : Option Addr} {σ : L2.St} {F H : Hp} (w : Wd K ρ T t σ F H) (i : Nat) : Wd K (ρ.set i none) T t (σ.set i none) F H := by
  refine ⟨w.wt, by simpa using w.len, fun j s e => ?_, fun j j' xs ys l e1 e2 e3 e4 => ?_⟩
  · rcases getSet e with ⟨_, _, z⟩ | ⟨ne, e'⟩
    · cases z
    · obtain ⟨u, h1, h2⟩ := w.slot j s e'
      exact ⟨u, by rw [List.getElem?_set_ne ne]; exact h1, h2⟩
  · rcases getSet e1 with ⟨_, _, z⟩ | ⟨n1, e1⟩
    · cases z
    · rcases getSet e2 with ⟨_, _, z⟩ | ⟨n2, e2⟩
      · cases z
      · rw [List.getElem?_set_ne n1] at e3
        rw [List.getElem?_set_ne n2] at e4
        exact w.apart j j' xs ys l e1 e2 e3 e4
theorem wd_wipe {K : PySem.W.Frag} {ρ : En} {T : Tk} {t : Option Addr} {σ : L2.St} {F H : Hp} (w : Wd K ρ T t σ F H) : ∀ vs : List Nat, Wd K (wipeD ρ vs) T t (wipe σ vs) F H
  | [] => w
  | v :: vs => wd_none (wd_wipe w vs) v
/-- the targets of a comprehension -/
abbrev dC1 := D → En → Option En
def CG (K : PySem.W.Frag) (g : TG) (c : dC1) (vs : List Nat) : Prop := ∀ {ρ : En} {T : Tk} {t : Option Addr} {σ : L2.St} {F H : Hp} {d : D} {v : V} {ρ1 : En} {Q : L2.St → Hp → Prop}, Wd K ρ T t σ F H → Rep K F d v → c d ρ = some ρ1 → (∀ σ1, Wd K ρ1 T t σ1 F H → wipe σ1 vs = wipe σ vs → Q σ1 H) → g v σ H Q
def cN (i : Nat) : dC1 := fun d ρ => some (ρ.set i (some (.val d)))
theorem cg_name {K : PySem.W.Frag} {i : Nat} {vs : List Nat} (h : i ∈ vs := by decide) : CG K (gName i) (cN i) vs := fun w r e q => by
  cases e
  exact q _ (w.put r) (wipe_set h)
def setAll : List Nat → List D → En → Option En
  | [], [], ρ => some ρ
  | i :: is, d :: ds, ρ => setAll is ds (ρ.set i (some (.val d)))
  | _, _, _ => none
def gNames : List Nat → TGs
  | [] => gNil
  | i :: is => gCons (gName i) (gNames is)
theorem cg_names {K : PySem.W.Frag} {vs : List Nat} : ∀ {is : List Nat} {ρ : En} {T : Tk} {t : Option Addr} {σ : L2.St} {F H : Hp} {ds : List D} {ws : List V} {ρ1 : En} {Q : L2.St → Hp → Prop}, (∀ i ∈ is, i ∈ vs) → Wd K ρ T t σ F H → RepL K F ds ws → setAll is ds ρ = some ρ1 → (∀ σ1, Wd K ρ1 T t σ1 F H → wipe σ1 vs = wipe σ vs → Q σ1 H) → gNames is ws σ H Q
  | [], ρ, T, t, σ, F, H, ds, ws, ρ1, Q, _, w, r, e, q => by
    cases r with
    | nil => cases e; exact ⟨rfl, q _ w rfl⟩
    | cons _ _ => cases e
  | i :: is, ρ, T, t, σ, F, H, ds, ws, ρ1, Q, hi, w, r, e, q => by
    cases r with
    | nil => cases e
    | cons r1 rr =>
      refine ⟨_, _, rfl, ?_⟩
      refine cg_names (is := is) (fun j hj => hi j (List.mem_cons_of_mem _ hj)) (w.put r1) rr e fun σ1 w1 e1 => q σ1 w1 ?_
      rw [e1, wipe_set (hi i List.mem_cons_self)]
def cT (is : List Nat) : dC1 := fun d ρ => match d with | .tup ds => setAll is ds ρ | _ => none
theorem setAll_len : ∀ {is : List Nat} {ds : List D} {ρ ρ1 : En}, setAll is ds ρ = some ρ1 → ds.length = is.length
  | [], [], _, _, _ => rfl
  | [], _ :: _, _, _, e => nomatch e
  | _ :: _, [], _, _, e => nomatch e
  | _ :: is, _ :: ds, ρ, ρ1, e => by simp [setAll_len (is := is) (ds := ds) e]
theorem cg_tup {K : PySem.W.Frag} {is vs : List Nat} (h : ∀ i ∈ is, i ∈ vs := by decide) : CG K (gTup K is.length (gNames is)) (cT is) vs := fun {ρ T t σ F H d v ρ1 Q} w r e q => by
  unfold cT at e
  split at e
  · obtain ⟨a, ws, rfl, h1, h2⟩ := rep_tup r
    exact ⟨a, ws, rfl, same_t w.wt.sub h1, by rw [← h2.len]; exact setAll_len e, cg_names h w h2 e q⟩
  · cases e
def lcD (ρ : En) (c : dC1) (tt : dT) (el : dE) (k : List D → Tk → Prop) : List D → List D → Tk → Prop
  | [], acc, T => k acc T
  | d :: r, acc, T => match c d ρ with
    | some ρ1 => tt ρ1 T fun b T1 => if b = true then el ρ1 T1 fun y T2 => lcD ρ c tt el k r (acc ++ [y]) T2 else lcD ρ c tt el k r acc T1
    | none => False
def dLc (vs : List Nat) (fi : dI) (c : dC1) (tt : dT) (el : dE) : dE := fun ρ T k => fi ρ T fun xs T1 => lcD (wipeD ρ vs) c tt el (fun acc T2 => k (.lst acc) T2) xs [] T1
def dYes : dT := fun _ T k => k true T
theorem pts_imp {ifs : List Expr} {t u : TT} (h : PTs X ifs t) (i : ∀ σ H Q, u σ H Q → t σ H Q) : PTs X ifs u := ⟨fun pins s σ H Q I q => h.run pins s σ H Q I (i _ _ _ q)⟩
theorem ts_nil : PTs X [] (tDT X.K dYes) := pts_imp pts_nil fun σ H Q ⟨ρ, T, t, F, k, w, h, f⟩ => f _ _ _ _ w.wt (Grow.refl _ _ _) h
theorem ts_one {c : Expr} {tc : dT} (h : PTd X c tc) : PTs X [c] (tDT X.K tc) := pts_one h
theorem lc_ok {K : PySem.W.Frag} {fi : dI} {g : TG} {c : dC1} {tt : dT} {el : dE} {vs : List Nat} (cg : CG K g c vs) {σ : L2.St} {H : Hp} {Q : VK} (h : tD K (dLc vs fi c tt el) σ H Q) : tLc (tDI K fi) g (tDT K tt) (tD K el) vs σ H Q := by
  obtain ⟨ρ, T, t, F, k, w, h, f⟩ := h
  refine ⟨ρ, T, t, F, _, w, h, fun J H1 F1 xs T1 w1 g1 src hl h1 => ?_⟩
  intro L hL
  have wd1 := w.grow g1 w1
  refine ⟨fun i m H' => m = xs.length - i ∧ i ≤ xs.length ∧ ∃ acc av T' F', Wt K T' t F' H' ∧ Grow t F1 H1 F' H' ∧ F' L = none ∧ H' L = some (.lst av) ∧ RepL K F' acc av ∧ acc.length ≤ i ∧ lcD (wipeD ρ vs) c tt el (fun acc T2 => k (.lst acc) T2) (xs.drop i) acc T', ?_, ?_⟩
  · refine ⟨xs.length, by simp, Nat.zero_le _, [], [], T1, F1, wt_own w1 hL, grow_own w1.sub hL, w1.sub.free hL, upd_same, .nil, Nat.le_refl _, ?_⟩
    exact h1
  rintro i m H' ⟨rfl, hi, acc, av, T', F', wt', g', fL, hLv, ra, hal, hh⟩
  have tL : t ≠ some L := fun z => by
    obtain ⟨_, us, hu, _⟩ := w1.tank L z
    rw [hL] at hu
    cases hu
  by_cases lt : i < xs.length
  · refine .inr ⟨src.go i F' H' g'.sub wt'.sub lt, fun H2 => ∃ acc av T' F', Wt K T' t F' H2 ∧ Grow t F1 H1 F' H2 ∧ F' L = none ∧ H2 L = some (.lst av) ∧ RepL K F' acc av ∧ acc.length ≤ i + 1 ∧ lcD (wipeD ρ vs) c tt el (fun acc T2 => k (.lst acc) T2) (xs.drop (i + 1)) acc T', fun H2 q => ⟨xs.length - (i + 1), by omega, rfl, lt, q⟩, fun x H2 y => ?_⟩
    obtain ⟨F2, d, hd, rd, g2, w2⟩ := src.yl i T' F' H' x H2 g'.sub wt' lt y
    have hx : xs.drop i = d :: xs.drop (i + 1) := by rw [List.drop_eq_getElem_cons lt, (List.getElem?_eq_some_iff.mp hd).2]
    rw [hx] at hh
    unfold lcD at hh
    split at hh
    · rename_i ρ1 e1
      have wd2 : Wd K (wipeD ρ vs) T' t (wipe σ vs) F2 H2 := wd_wipe (wd1.grow (g'.trans g2) w2) vs
      refine cg wd2 rd e1 fun σ1 ws1 ew => ⟨by rw [ew, wipe_idem], ?_⟩
      refine ⟨ρ1, T', t, F2, _, ws1, hh, fun b H3 F3 T3 w3 g3 h3 => ?_⟩
      have gg := (g'.trans g2).trans g3
      have hL2 := g2.keep _ _ hLv tL
      have hL3 := g3.keep _ _ hL2 tL
      have fL2 := g2.new _ _ hLv fL
      have fL3 := g3.new _ _ hL2 fL2
      have ra3 := (ra.mono g2.sub).mono g3.sub
      cases b with
      | false => exact ⟨acc, av, T3, F3, w3, gg, fL3, hL3, ra3, by omega, h3⟩
      | true =>
        rw [if_pos rfl] at h3
        refine iteT ⟨ρ1, T3, t, F3, _, ws1.grow g3 w3, h3, fun u H4 F4 z T4 w4 g4 r4 h4 => ?_⟩
        have hL4 := g4.keep _ _ hL3 tL
        have fL4 := g4.new _ _ hL3 fL3
        have ra4 := ra3.mono g4.sub
        refine ⟨av, hL4, by rw [← ra4.len, sizeLine_eq]; omega, acc ++ [z], av ++ [u], T4, F4, ?_, ?_, fL4, upd_same, ra4.app (.cons r4 .nil), by simp; omega, h4⟩
        · refine ⟨fun b o q => ?_, fun a ea => ?_, w4.tabs.chg hL4⟩
          · have ne : b ≠ L := fun z => by rw [z, fL4] at q; cases q
            rw [upd_ne ne]
            exact w4.sub b o q
          · obtain ⟨n, us, hu, ru⟩ := w4.tank a ea
            have ne : a ≠ L := fun z => tL (by rw [ea, z])
            exact ⟨n, us, by rw [upd_ne ne]; exact hu, ru⟩
        · have gg4 := gg.trans g4
          refine ⟨gg4.sub, fun a o q n z => ?_, gg4.new, fun a o q => ?_⟩
          · rw [upd_ne (ne_of_none q hL)]
            exact gg4.keepT a o q n z
          · rw [upd_ne (ne_of_none q hL)]
            exact gg4.there a o q
    · exact hh.elim
  · have e : i = xs.length := by omega
    subst e
    rw [List.drop_length] at hh
    refine .inl ⟨src.st F' H' g'.sub wt'.sub, ?_⟩
    have sm : Same F' (upd F' L (.lst av)) := same_upd fL
    refine f (.ref L) H' (upd F' L (.lst av)) (.lst acc) T' ⟨fun b o q => ?_, fun a ea => ?_, wt'.tabs.frz hLv⟩ (g1.trans ⟨g'.sub.trans sm, g'.keepT, fun a o q n => ?_, g'.there⟩) (.lst upd_same (ra.mono sm)) hh
    · by_cases hb : b = L
      · subst hb; rw [upd_same] at q; cases q; exact hLv
      · rw [upd_ne hb] at q; exact wt'.sub b o q
    · obtain ⟨n, us, hu, ru⟩ := wt'.tank a ea
      have ne : a ≠ L := fun z => tL (by rw [ea, z])
      exact ⟨by rw [upd_ne ne]; exact n, us, hu, ru.mono sm⟩
    · rw [upd_ne (ne_of_none q hL)]
      exact g'.new a o q n
theorem d_lc {elt iter : Expr} {ifs : List Expr} {scope : Scope} {fi : dI} {g : TG} {c : dC1} {tt : dT} {el : dE} (own : List (Str × Nat)) (hc : X.calm = true) (hN : X.N.Nodup) (hi : PId X tg iter fi) (cg : CG X.K g c (own.map (·.2)))
    (hg : ∀ (s : Shared) (H : Hp) (C : Addr) (cl : List (Str × Addr)) (fp : List Addr), PG (X.blk s H scope (compEnvC scope cl C X.env) fp) tg g)
    (ht : ∀ (s : Shared) (H : Hp) (C : Addr) (cl : List (Str × Addr)) (fp : List Addr), PTs (X.blk s H scope (compEnvC scope cl C X.env) fp) ifs (tDT X.K tt))
    (he : ∀ (s : Shared) (H : Hp) (C : Addr) (cl : List (Str × Addr)) (fp : List Addr), PEd (X.blk s H scope (compEnvC scope cl C X.env) fp) elt el)
    (ok : BlkOk X.N X.env.scope scope own := by exact blkOk_by (by decide +kernel)) (hs : ∀ x, foldedSetIterable iter X.env x = pure x := by intro _; rfl) :
    PEd X (.ListComp elt [⟨tg, iter, ifs, 0⟩] scope pos) (dLc (own.map (·.2)) fi c tt el) :=
  pe_imp (pe_lc (te := tD X.K el) hc hN hi ok hg ht he hs) fun _ _ _ h => lc_ok cg h
/-- y = [..] on one line -/
theorem s_setLc (i : Nat) {y : Str} {py spos : Pos} {elt iter : Expr} {ifs : List Expr} {scope : Scope} {fi : dI} {g : TG} {c : dC1} {tt : dT} {el : dE} (own : List (Str × Nat)) (hc : X.calm = true) (hN : X.N.Nodup) (hi : PId X tg iter fi) (cg : CG X.K g c (own.map (·.2)))
    (hg : ∀ (s : Shared) (H : Hp) (C : Addr) (cl : List (Str × Addr)) (fp : List Addr), PG (X.blk s H scope (compEnvC scope cl C X.env) fp) tg g)
    (ht : ∀ (s : Shared) (H : Hp) (C : Addr) (cl : List (Str × Addr)) (fp : List Addr), PTs (X.blk s H scope (compEnvC scope cl C X.env) fp) ifs (tDT X.K tt))
    (he : ∀ (s : Shared) (H : Hp) (C : Addr) (cl : List (Str × Addr)) (fp : List Addr), PEd (X.blk s H scope (compEnvC scope cl C X.env) fp) elt el)
    (hsw : swapsWith (.ListComp elt [⟨tg, iter, ifs, 0⟩] scope pos) (some (.Name y py)) spos.line X.env = pure true)
    (ok : BlkOk X.N X.env.scope scope own := by exact blkOk_by (by decide +kernel)) (hy : X.N[i]? = some y := by rfl) (hyl : X.env.scope.names.lookup y = some .local := by rfl) (hs : ∀ x, foldedSetIterable iter X.env x = pure x := by intro _; rfl) :
    PSd X (.Assign [.Name y py] (.ListComp elt [⟨tg, iter, ifs, 0⟩] scope pos) spos) (sAsg (dLc (own.map (·.2)) fi c tt el) (gN i)) := by
  refine ps_imp (ps_setLc (te := tD X.K el) hc hN hy hyl hsw hi ok hg ht he hs) fun E σ H h => ?_
  obtain ⟨ρ, T, t, F0, H0, F, k, w, h, fe⟩ := h
  exact lc_ok cg ⟨ρ, T, t, F, _, w.w, h, fun v H1 F1 d T1 w1 g1 r1 h1 => fe.nx _ _ _ _ _ ((w.grow g1 w1).put r1) g1.sub h1⟩
end
end L2.G

namespace L2.G
open PySem PySem.Spec PyProof.Rows

/-! the list that is changed in its place -/
section
variable {X : Cx} {e : Expr} {es : List Expr} {fe : dE} {fr : dA} {p pos : Pos} {f g : dS}
def isTank (ρ : En) (i : Nat) : Prop := match ρ[i]? with | some (some .tank) => True | _ => False
def dTix (i : Nat) (fe : dE) : dE := fun ρ T k => isTank ρ i ∧ fe ρ T fun d T1 => match d with | .int j => (match atI T1 j with | some x => k x T1 | none => False) | _ => False
theorem tank_slot {K : PySem.W.Frag} {ρ : En} {T : Tk} {t : Option Addr} {σ : L2.St} {F H : Hp} (w : Wd K ρ T t σ F H) {i : Nat} (h : isTank ρ i) : ∃ a, t = some a ∧ σ[i]? = some (some (.ref a)) := by
  unfold isTank at h
  split at h
  · rename_i e
    obtain ⟨v, h1, a, h2, rfl⟩ := w.slot i _ e
    exact ⟨a, h2, h1⟩
  · exact h.elim
theorem d_tix (i : Nat) {x : Str} {p1 : Pos} (he : PEd X e fe) (hs : PlainIx e := by exact fun _ _ => rfl) (hN : X.N[i]? = some x := by rfl) (hv : Vis X.env.scope x := by first | exact Or.inl rfl | exact Or.inr (Or.inl rfl) | exact Or.inr (Or.inr rfl))
    (hd : (x == ("__debug__" : Str)) = false := by decide) (hc : (x == ("__classdict__" : Str)) = false := by decide) : PEd X (.Subscript (.Name x p1) e pos) (dTix i fe) := by
  refine pe_imp (pe_ix ix_list (pe_var hN hv hd hc) he hs) fun σ H Q h => ?_
  obtain ⟨ρ, T, t, F, k, w, ⟨ht, h⟩, f⟩ := h
  obtain ⟨a, rfl, hσ⟩ := tank_slot w ht
  refine ⟨_, hσ, ρ, T, some a, F, _, w, h, fun v H1 F1 d T1 w1 g1 r1 h1 => ?_⟩
  split at h1
  · split at h1
    · rename_i e1
      cases r1
      obtain ⟨_, vs, hH, r⟩ := w1.tank a rfl
      obtain ⟨u, e2, ru⟩ := atI_rep r e1
      exact ⟨a, vs, _, u, rfl, rfl, .of hH, e2, (f.then g1).val w1 ru h1⟩
    · exact h1.elim
  · exact h1.elim
theorem Ws.tk {K : PySem.W.Frag} {ρ : En} {T T' : Tk} {σ : L2.St} {F0 H0 F H : Hp} {a : Addr} {ws : List V} (w : Ws K ρ T (some a) σ F0 H0 F H) (r : RepL K F T' ws) : Ws K ρ T' (some a) σ F0 H0 F (upd H a (.lst ws)) := by
  obtain ⟨hF, vs0, hA0, _⟩ := w.w.wt.tank a rfl
  refine ⟨⟨⟨fun b u q => ?_, fun b eb => ?_, w.w.wt.tabs.chg hA0⟩, w.w.len, fun j s ej => ?_, w.w.apart⟩, ⟨w.g.sub, fun b o h0 n0 z0 => ?_, w.g.new, fun b o h0 => ?_⟩, w.fr⟩
  · have ne : b ≠ a := fun z => by rw [z, hF] at q; cases q
    rw [upd_ne ne]
    exact w.w.wt.sub b u q
  · cases eb
    exact ⟨hF, ws, upd_same, r⟩
  · obtain ⟨u, h1, h2⟩ := w.w.slot j s ej
    refine ⟨u, h1, ?_⟩
    cases s with
    | val d => exact h2
    | tank => exact h2
    | exc _ _ => exact ⟨h2.1, fun dd fl x q => let ⟨n, u, f1, r1⟩ := h2.2 dd fl x q; ⟨n, u, by rw [upd_ne (fun z => n (by rw [z]))]; exact f1, r1⟩⟩
    | ptup _ => exact h2
    | fn _ c _ => exact ⟨h2.1, by rw [upd_ne (fun z => h2.2.2 (by rw [z]))]; exact h2.2.1, h2.2.2⟩
    | own zs =>
      obtain ⟨m, us, rfl, f1, f2, f3, f4⟩ := h2
      have nm : m ≠ a := fun z => f4 (by rw [z])
      exact ⟨m, us, rfl, f1, by rw [upd_ne nm]; exact f2, f3, f4⟩
  · have ne : b ≠ a := fun z => n0 (by rw [z])
    rw [upd_ne ne]
    exact w.g.keepT b o h0 n0 z0
  · by_cases hb : b = a
    · subst hb; exact ⟨_, upd_same⟩
    · rw [upd_ne hb]; exact w.g.there b o h0
def gTs (i : Nat) (fe : dE) : dG := fun d ρ T k => isTank ρ i ∧ fe ρ T fun j T1 => match j with | .int j => (match ixN T1.length j with | some m => k ρ (T1.set m d) | none => False) | _ => False
theorem g_tset (i : Nat) {x : Str} {p1 : Pos} (he : PEd X e fe) (hN : X.N[i]? = some x := by rfl) (hv : Vis X.env.scope x := by first | exact Or.inl rfl | exact Or.inr (Or.inl rfl) | exact Or.inr (Or.inr rfl))
    (hd : (x == ("__debug__" : Str)) = false := by decide) (hc : (x == ("__classdict__" : Str)) = false := by decide) (ha : ∀ v, assign (.Subscript (.Name x p1) e pos) X.env v = (do
      let ov ← holding [v] (eval (.Name x p1) X.env); let iv ← holding [v, ov] (eval e X.env); standAt pos; holding [v, ov, iv] (setItem ov iv v); release [v, ov, iv] []) := by intro _; rfl) : PGd X (.Subscript (.Name x p1) e pos) (gTs i fe) := by
  refine pg_imp (pg_sub (pe_var hN hv hd hc) he set_list ha) fun v σ H Q h => ?_
  obtain ⟨ρ, T, t, F0, H0, F, d, k, w, r, ⟨ht, h⟩, f⟩ := h
  obtain ⟨a, rfl, hσ⟩ := tank_slot w.w ht
  refine ⟨_, hσ, ρ, T, some a, F, _, w.w, h, fun u H1 F1 j T1 w1 g1 r1 h1 => ?_⟩
  split at h1
  · split at h1
    · rename_i e1
      cases r1
      obtain ⟨_, vs, hH, rt⟩ := w1.tank a rfl
      rw [rt.len] at e1
      exact ⟨a, vs, _, _, rfl, rfl, hH, e1, f _ _ _ _ _ ((w.grow g1 w1).tk (rt.set (r.mono g1.sub) _)) g1.sub h1⟩
    · exact h1.elim
  · exact h1.elim

/-! a def that ends by return [..]: the list is new -/
def FinO (K : PySem.W.Frag) (t : Option Addr) (F H : Hp) (k : KD) (n : VK) : Prop := ∀ l lv H' F' xs T', Wt K T' t F' H' → Grow t F H F' H' → H l = none → F' l = none → H' l = some (.lst lv) → RepL K F' xs lv → k (.lst xs) T' → n (.ref l) H'
def tDSo (K : PySem.W.Frag) (f : En → Tk → KD → Prop) : TS := fun E σ H => ∃ ρ T t F0 H0 F k, Ws K ρ T t σ F0 H0 F H ∧ f ρ T k ∧ FinO K t F0 H0 k E.rt
abbrev PSo (X : Cx) (st : List Stmt) (f : En → Tk → KD → Prop) : Prop := PSs X st (tDSo X.K f)
def no0 : dEnds := { nx := fun _ _ => False, rt := fun _ _ => False, bk := fun _ _ => False, ct := fun _ _ => False }
theorem so_cons {st : Stmt} {rest : List Stmt} {f : dS} {g : En → Tk → KD → Prop} (h1 : PSd X st f) (h2 : PSo X rest g) : PSo X (st :: rest) (fun ρ T k => f { no0 with nx := fun ρ1 T1 => g ρ1 T1 k } ρ T) := by
  refine pss_imp (pss_cons h1 h2) fun E σ H h => ?_
  obtain ⟨ρ, T, t, F0, H0, F, k, w, h, fe⟩ := h
  exact ⟨ρ, T, t, F0, H0, F, _, w, h, ⟨fun ρ' T' σ' F' H' w' _ h' => ⟨ρ', T', t, F0, H0, F', k, w', h', fe⟩, fun _ _ _ _ _ _ _ _ q => q.elim, fun _ _ _ _ _ _ _ q => q.elim, fun _ _ _ _ _ _ _ q => q.elim⟩⟩
theorem so_ret {lp : Pos} (ha : PAd X es fr) : PSo X [.Return (some (.List es lp)) pos] (fun ρ T k => fr ρ T fun as T1 => match vals? as with | some ds => ds.length ≤ 1000000 ∧ k (.lst ds) T1 | none => False) := by
  refine pss_imp (pss_one (ps_ret (pe_lst ha))) fun E σ H h => ?_
  obtain ⟨ρ, T, t, F0, H0, F, k, w, h, fe⟩ := h
  refine ⟨ρ, T, t, F, _, w.w, h, fun vs H1 F1 as T1 w1 g1 r1 h1 => ?_⟩
  split at h1
  · rename_i ds e
    have r := r1.vals e
    refine ⟨by rw [← r.len]; exact small_line h1.1, fun l hl => ?_⟩
    have g2 := (w.g.trans g1).trans (grow_own (o := .lst vs) w1.sub hl)
    refine fe l vs _ F1 ds T1 (wt_own w1 hl) g2 ?_ (w1.sub.free hl) upd_same r h1.2
    cases q : H0 l with
    | none => rfl
    | some o =>
      obtain ⟨o', h'⟩ := (w.g.trans g1).there l o q
      rw [hl] at h'
      cases h'
  · exact h1.elim
def spO (K : PySem.W.Frag) (n : Nat) (sem : Sem) : Sp := fun vs H Q _ => vs.length = n ∧ ∃ F t T as k, ArgL K t F as vs ∧ Wt K T t F H ∧ sem as T k ∧ FinO K t F H k Q
def OkO (P : Program) (w : World) (K : PySem.W.Frag) (mg : Str → Option Value) (base : Heap) (n : Nat) (x : Str) (ps : List Str) (sem : Sem) : Prop :=
  ∃ f fd, mg x = some (.ref f) ∧ PySem.W.keepIn K (.ref f) = true ∧ Binds K fd ps [] ∧ GFn P w K mg base CX0 n f fd ps (spO K ps.length sem)
end
def semO (N : List Str) (b : En → Tk → KD → Prop) : Sem := fun as T k => b (start' N as) T k
theorem ok_defO {P : Program} {w : World} {K : PySem.W.Frag} {mg : Str → Option Value} {base : Heap} {n : Nat} {x : Str} {st : Stmt} {N ps : List Str} {b : En → Tk → KD → Prop} (h : Df K mg x st) (S : FnScope N ps (defScope st))
    (hb1 : ∀ (kV doc pm : Value) (an : Option Addr) (cdv ct : Value) (us : List Value), us.length = ps.length → bindArgs (PySem.W.fnOf x x (defArgs st) (defBody st) (defScope st) .none kV doc pm an cdv ct) ⟨us, []⟩ = pure (ps.zip us))
    (body : ∀ (f : Addr) (cdv : Value) (A : Around) (fs : List Env) (s : Shared) (H : Hp) (E : XK), CdAt K mg x f cdv → Room n (A.deeper (envOfC x (defScope st) s.heap.objs.size f cdv)) → A.guards = some [] → PSo (CxD P w K mg base N x st f cdv A fs s H E) (defBody st) b) :
    OkO P w K mg base (n + 1) x ps (semO N b) := by
  obtain ⟨f, fd, Fn, hm⟩ := h
  refine ⟨f, fd, hm, Fn.kp, Fn.binds hb1, ?_⟩
  obtain ⟨oc, od, kV, doc, pm, an, cdv, ct, osl, rfl, lk, hcd⟩ := Fn.ex
  refine gfn_body lk hcd S (fun vs H Q E q => q.1) fun A fs s H vs Q E hr hgd hsp => ?_
  obtain ⟨hl, F, t, T, as, k, ar, wt, h, fin⟩ := hsp
  refine ⟨_, (body f cdv A fs s H E ⟨hm, _, _, _, _, lk, rfl⟩ hr hgd).nox, start' N as, T, t, F, H, F, _, ⟨wd_start ar wt, Grow.refl _ _ _, fun i xs l e1 _ => ?_⟩, h, fin⟩
  exact absurd rfl ((argGet (H := H) ar i _ (startGet e1)).2 xs)
theorem OkO.mono {P : Program} {w : World} {K : PySem.W.Frag} {mg : Str → Option Value} {base : Heap} {m n : Nat} {x : Str} {ps : List Str} {sem : Sem} (h : OkO P w K mg base m x ps sem) (l : m ≤ n) : OkO P w K mg base n x ps sem :=
  let ⟨f, fd, h1, h2, h3, h4⟩ := h; ⟨f, fd, h1, h2, h3, h4.mono l⟩
section
variable {X : Cx} {e : Expr} {es : List Expr} {fr : dA} {p pos q pos2 : Pos} {x y : Str} {n m : Nat} {ps qs : List Str} {sem so : Sem}
/-- f(new(..)): the new list is f's own -/
def dCallT (m : Nat) (sem so : Sem) (fr : dA) : dE := fun ρ T k => fr ρ T fun as T1 => as.length = m ∧ so as T1 fun d T2 => match d with | .lst xs => sem [.tank] xs fun r _ => k r T2 | _ => False
theorem d_callT (G : Ok X.prog X.w X.K X.mg X.base n x ps sem) (O : OkO X.prog X.w X.K X.mg X.base m y qs so) (hr : Room n X.A) (hr2 : Room m X.A) (hgd : X.A.guards = some []) (ha : PAd X (e :: es) fr) (h1 : ps.length = 1) (hg : Gl X x := by rfl) (hg2 : Gl X y := by rfl)
    (hd : (x == ("__debug__" : Str)) = false := by decide) (hd2 : (y == ("__debug__" : Str)) = false := by decide) (he : starEach (e :: es) X.env = (false, eval e X.env) :: starEach es X.env := by rfl) (hp : (backTo pos2 (starEach es X.env)).any (·.1) = false := by rfl)
    (he2 : starEach [.Call (.Name y q) (e :: es) [] pos2] X.env = (false, eval (.Call (.Name y q) (e :: es) [] pos2) X.env) :: starEach [] X.env := by rfl) (hp2 : (backTo pos (starEach [] X.env)).any (·.1) = false := by rfl) :
    PEd X (.Call (.Name x p) [.Call (.Name y q) (e :: es) [] pos2] [] pos) (dCallT qs.length sem so fr) := by
  obtain ⟨f, fd, a1, a2, a3, _, a5, _⟩ := G
  obtain ⟨f', fd', b1, b2, b3, b5⟩ := O
  refine pe_imp (g_call (E := E0) a5 hr hgd hg a1 a2 a3 pass0 (pa_cons (g_call (E := E0) b5 hr2 hgd hg2 b1 b2 b3 pass0 ha hd2 he hp) pa_nil he2) hd he2 hp2) fun σ H Q h => ?_
  obtain ⟨ρ, T, t, F, k, w, h, fin⟩ := h
  refine ⟨ρ, T, t, F, _, w, h, fun vs H1 F1 as T1 w1 g1 r1 h1' => ?_⟩
  show spO X.K qs.length so (vs ++ []) H1 _ E0
  rw [List.append_nil]
  refine ⟨by rw [← r1.len]; exact h1'.1, F1, t, T1, as, _, r1, w1, h1'.2, fun l lv H2 F2 xs T2 w2 g2 hl hF2 hH2 rx h2 => ?_⟩
  refine ⟨by rw [h1]; rfl, F2, some l, xs, [.tank], _, .tank rfl .nil, ⟨w2.sub, fun a ea => ?_, w2.tabs⟩, h2, fun v H3 F3 d T3 w3 g3 r3 h3 => ?_⟩
  · cases ea
    exact ⟨hF2, lv, hH2, rx⟩
  · have keep : ∀ a o, H1 a = some o → t ≠ some a → noTb o → H3 a = some o := fun a o q n z => g3.keepT a o (g2.keepT a o q n z) (fun z => by cases z; rw [hl] at q; cases q) z
    have tk : ∀ a, t = some a → F3 a = none ∧ ∃ vs, H3 a = some (.lst vs) ∧ RepL X.K F3 T2 vs := fun a ea => by
      obtain ⟨n, us, hu, ru⟩ := w2.tank a ea
      obtain ⟨_, us1, hu1, _⟩ := w1.tank a ea
      have ne : some l ≠ some a := fun z => by cases z; rw [hl] at hu1; cases hu1
      exact ⟨g3.new _ _ hu n, us, g3.keep _ _ hu ne, ru.mono g3.sub⟩
    refine fin v H3 F3 d T2 ⟨w3.sub, tk, w3.tabs⟩ (g1.trans ⟨g2.sub.trans g3.sub, keep, fun a o q n => ?_, fun a o q => ?_⟩) r3 h3
    · obtain ⟨o', q'⟩ := g2.there a o q
      exact g3.new a o' q' (g2.new a o q n)
    · obtain ⟨o', q'⟩ := g2.there a o q
      exact g3.there a o' q'
end

/-! the end: the law is called; cs: the code objects of the defs that make lambdas, and their tables (empty at first) -/
def OnlyT (ts : List Addr) (H : Hp) : Prop := ∀ b, H b = none ∨ b ∈ ts ∨ ∃ o xs, H b = some (.frz o (.lst xs))
theorem g_lawT {P : Program} {w : World} {K : PySem.W.Frag} {mg mb : Str → Option Value} {CX : CXT} {k : Nat} {fa a : Addr} {fd : FuncData} {x : Str} {sp : Sp} {s1 : Shared} {vs : List Value} {ns : List Int} {ts : List Addr} (KX : K.In s1.heap) (hns : s1.heap.Ns mainGlobals mg)
    (hb : s1.heap.Ns builtinsNs mb) (hbb : ∀ x : Str, x ≠ "__name__" → mb x = bootBuiltins x) (hlim : s1.heap.NoLimit) (hg : s1.gens = #[]) (hT : ∀ b ∈ ts, ∃ c, s1.heap.TableAt c b #[]) (nT : ∀ b ∈ ts, K.lookup b = none)
    (ha : s1.heap.get? a = some { cls := .type "list", data := .seq vs.toArray }) (hi : IntsAre vs ns) (hl : ns.length ≤ sizeLine)
    (hr : Room k callerA) (G : ∀ base : Heap, K.In base → base.Ns mainGlobals mg → GFn P w K mg base CX k fa fd [x] sp) (hbind : ∀ u : Value, BindsTo s1 fd ⟨[u], []⟩ [(x, u)])
    (hsp : ∀ H : Hp, OnlyT ts H → (∀ b ∈ ts, H b = some (.tbl #[])) → SqL K H a (ns.map V.int) → sp [.ref a] H (fun v _ => v = .bl true) fun _ _ _ => False) (hCX : ∀ H e s', CX [] H s1 (fun _ _ _ => False) e s' → False) :
    codeAny (model P w) callerA (.call (.ref fa) ⟨[.ref a], []⟩) (fun r s' => r = .ok (.ret (.bool true)) ∧ OldK s1.heap s'.heap ∧ s'.os = s1.os ∧ AllBare s'.gens) s1 := by
  have rv := vals_ints hi
  have lenV := hi.length
  have gT : ∀ b ∈ ts, s1.heap.get? b = some { cls := .none, data := .fields #[] } := fun b q => let ⟨_, h⟩ := hT b q; h.2
  have aT : a ∉ ts := fun z => by
    have q := gT a z
    rw [ha] at q
    exact nomatch (show Data.seq vs.toArray _ = Data.fields #[] from congrArg Obj.data (Option.some.inj q))
  have core : ∀ H : Hp, OnlyT ts H → (∀ b ∈ ts, H b = some (.tbl #[])) → SqL K H a (ns.map V.int) → HOk P w H s1.heap → (∀ b, H b ≠ none → b = a ∨ b ∈ ts) → (H a ≠ none → K.lookup a = none) →
      codeAny (model P w) callerA (.call (.ref fa) ⟨[.ref a], []⟩) (fun r s' => r = .ok (.ret (.bool true)) ∧ OldK s1.heap s'.heap ∧ s'.os = s1.os ∧ AllBare s'.gens) s1 := by
    intro H hO hH hS hok hA hK
    have free : ∀ {b : Addr}, b ≠ a → b ∉ ts → H b = none := fun {b} nb nt => Classical.byContradiction fun z => (hA b z).elim nb nt
    have dicts : ∀ {b : Addr} {o : Obj} {es : Array DictEntry} {ep : Nat}, s1.heap.get? b = some o → o.data = .dict es ep → H b = none := fun {b o es ep} e d => free (fun z => by
      subst z
      cases ha.symm.trans e
      exact nomatch (show Data.seq vs.toArray _ = Data.dict es ep from d)) fun z => by
      cases (gT b z).symm.trans e
      exact nomatch (show Data.fields #[] = Data.dict es ep from d)
    have ns' : ∀ {b : Addr} {m : Str → Option Value}, s1.heap.Ns b m → (hidT s1.heap H).Ns b m := fun {b m} ⟨o, es, ep, e, d, r⟩ => ⟨o, es, ep, hidT_get e (dicts e d), d, r⟩
    have inB : K.In (hidT s1.heap H) := fun b o e => hidT_get (KX b o e) (by
      by_cases z : H b = none
      · exact z
      · rcases hA b z with hb | hb
        · subst hb
          have q := hK z
          rw [e] at q
          cases q
        · rw [nT b hb] at e
          cases e)
    have hM : Mod K mg (hidT s1.heap H) := ⟨inB, ns' hns, ⟨mb, ns' hb, hbb⟩, by obtain ⟨mc, h1, h2⟩ := hlim; exact ⟨mc, ns' h1, h2⟩⟩
    have e0 : Env0 P w K mg (hidT s1.heap H) callerA [] s1 H := ⟨rfl, hM, fun b o e => of_hidT e, Nat.le_of_eq (hidT_size _ _), trivial, fun b z => (by cases z), hok, .of_eq hg⟩
    apply codeAny_mono ((G _ inB (ns' hns)).go callerA [] s1 H ⟨[.ref a], []⟩ [.ref a] [.ref a] _ _ ⟨hr, rfl⟩ e0 (hbind (.ref a)) (.cons rfl .nil) (hsp H hO hH hS))
    intro r s' h
    match r, h with
    | .error e, h => exact (hCX H e s' h).elim
    | .ok (.ret u), h =>
      obtain ⟨v, H', os, bare, un, hok', r', q⟩ := h
      obtain rfl : v = V.bl true := q
      obtain rfl : u = Value.bool true := r'
      have grown : ∀ b ∈ ts, ∃ more : Array Value, s'.heap.get? b = some { cls := .none, data := .fields more } := fun b hb => by
        obtain ⟨more, z⟩ := un.tbls b #[] (hH b hb)
        exact ⟨_, hok' b _ z⟩
      have kept : ∀ b o, b ∉ ts → s1.heap.get? b = some o → s'.heap.get? b = some o := fun b o nb e => by
        cases q : H b with
        | none => exact un.keep b o e q (by simp [frs]) (by simp)
        | some u =>
          rcases hO b with z | z | ⟨ob, xs, z⟩
          · cases q.symm.trans z
          · exact absurd z nb
          · have k1 := (hok b _ z).1
            have k2 := (hok' b _ (un.frzs b ob _ z)).1
            cases e.symm.trans k1
            exact k2
      refine ⟨rfl, ⟨fun b o e => ?_, fun b o e => ?_⟩, os, bare⟩
      · by_cases hb : b ∈ ts
        · obtain ⟨c, tc⟩ := hT b hb
          obtain ⟨more, hm⟩ := grown b hb
          cases (gT b hb).symm.trans e
          exact .inr (.inl ⟨tc.isCodeTable, rfl, #[], more, rfl, by rw [hm, Array.empty_append]⟩)
        · exact .inl (kept b o hb e)
      · by_cases hb : b ∈ ts
        · obtain ⟨more, hm⟩ := grown b hb
          exact ⟨_, hm⟩
        · exact ⟨o, kept b o hb e⟩
  let H0 : Hp := fun b => if b ∈ ts then some (.tbl #[]) else none
  have h0 : ∀ {b : Addr}, b ∈ ts → H0 b = some (.tbl #[]) := fun {b} q => if_pos q
  have h1 : ∀ {b : Addr}, b ∉ ts → H0 b = none := fun {b} q => if_neg q
  cases hk : K.lookup a with
  | some o =>
    cases ha.symm.trans (KX a o hk)
    refine core H0 (fun b => ?_) (fun b q => h0 q) (.inr ⟨_, vs.toArray, _, hk, rfl, rfl, rfl, ?_, by simpa using rv⟩) (fun b u z => ?_) (fun b z => ?_) fun z => absurd (h1 aT) z
    · by_cases q : b ∈ ts
      · exact .inr (.inl q)
      · exact .inl (h1 q)
    · rw [List.size_toArray, lenV]
      exact hl
    · by_cases q : b ∈ ts
      · cases (h0 q).symm.trans z
        exact gT b q
      · cases (h1 q).symm.trans z
    · by_cases q : b ∈ ts
      · exact .inr q
      · exact absurd (h1 q) z
  | none =>
    refine core (fun b => if b = a then some (.frz { cls := .type "list", data := .seq vs.toArray } (.lst (ns.map V.int))) else H0 b) (fun b => ?_) (fun b q => ?_) ?_ (fun b u z => ?_) (fun b z => ?_) fun _ => hk
    · by_cases nb : b = a
      · right; right; exact ⟨_, _, if_pos nb⟩
      · by_cases q : b ∈ ts
        · exact .inr (.inl q)
        · left; exact (if_neg nb).trans (h1 q)
    · exact (if_neg (show ¬ b = a from fun z => aT (by rw [← z]; exact q))).trans (h0 q)
    · left; right; exact ⟨{ cls := .type "list", data := .seq vs.toArray }, if_pos rfl⟩
    · by_cases nb : b = a
      · cases (if_pos nb).symm.trans z
        subst nb
        exact ⟨ha, by rw [List.length_map]; exact hl, vs, _, rv, ha⟩
      · have z := (if_neg nb).symm.trans z
        by_cases q : b ∈ ts
        · cases (h0 q).symm.trans z
          exact gT b q
        · cases (h1 q).symm.trans z
    · by_cases nb : b = a
      · exact .inl nb
      · by_cases q : b ∈ ts
        · exact .inr q
        · exact absurd ((if_neg nb).trans (h1 q)) z
/-- the script as data -/
def scrD (ns : List Int) : D := .scr (ns.map D.int)
theorem scr_rep {K : PySem.W.Frag} {F : Hp} : ∀ ns : List Int, RepL K F (ns.map D.int) (ns.map V.int)
  | [] => .nil
  | n :: ns => .cons (.int n) (scr_rep ns)
end L2.G

namespace L2.G
open PySem PySem.Spec PyProof.Rows

section
variable {X : Cx} {tg a b c e : Expr} {fa fb fc fe : dE} {fr : dA} {p pos : Pos}
/-! a list or a tuple that is walked -/
def iS (fe : dE) : dI := fun ρ T k => fe ρ T fun d T1 => match d with | .lst xs => xs.length ≤ 1000000 ∧ k xs T1 | .tup xs => xs.length ≤ 1000000 ∧ k xs T1 | _ => False
theorem i_seq (he : PEd X e fe) : PId X tg e (iS fe) := by
  constructor
  rintro pins s σ H R I ⟨ρ, T, t, F, k, w, h, f⟩
  have key := he.run pins s σ H (fun x H1 => (∃ a xs, x = .ref a ∧ SqL X.K H1 a xs ∧ R (Itl X.K a) H1) ∨ ∃ a xs, x = .ref a ∧ SqT X.K H1 a xs ∧ R (Itt X.K a) H1) I ⟨ρ, T, t, F, _, w, h, fun v H1 F1 d T1 w1 g1 r1 h1 => by
    split at h1
    · obtain ⟨a, vs, rfl, hq, hr⟩ := rep_lst r1
      exact .inl ⟨a, vs, rfl, .of (w1.sub _ _ hq), f _ _ _ _ _ w1 g1 (src_list hq hr) h1.1 h1.2⟩
    · obtain ⟨a, vs, rfl, hq, hr⟩ := rep_tup r1
      exact .inr ⟨a, vs, rfl, same_t w1.sub hq, f _ _ _ _ _ w1 g1 (src_tup hq hr) h1.1 h1.2⟩
    · exact h1.elim⟩
  refine thn key fun v s1 ⟨x, H1, I1, r1, q1⟩ => ?_
  have fr : ∀ b ∈ [s1.heap.objs.size], FpOk X pins H1 b := fun b hb => by
    rw [List.mem_singleton.mp hb]
    exact I1.fpOk (Nat.le_refl _) (I1.hok.fresh (Nat.le_refl _))
  rcases q1 with ⟨a, xs, rfl, hq, q⟩ | ⟨a, xs, rfl, hq, q⟩
  · obtain rfl : v = Value.ref a := r1
    obtain ⟨its, _, pl, _⟩ := I1.list hq
    apply wpAny_pyIter_list pl.isList
    exact ⟨s1.heap.objs.size, _, _, _, H1, rfl, I1.kept (t' := s1.toks) fun b o z => Heap.get?_push_of_some _ z, turn_list a _, ⟨_, Heap.get?_push_size _ rfl, rfl, rfl⟩, fr, q⟩
  · obtain rfl : v = Value.ref a := r1
    obtain ⟨its, _, pl, _⟩ := I1.tuple hq
    apply wpAny_pyIter_tuple pl
    exact ⟨s1.heap.objs.size, _, _, _, H1, rfl, I1.kept (t' := s1.toks) fun b o z => Heap.get?_push_of_some _ z, turn_tuple a _, ⟨_, Heap.get?_push_size _ rfl, rfl, rfl⟩, fr, q⟩

/-! +, *, ==, != of any kind -/
def oAdd : Op2 := fun x y k => match x, y with
  | .int i, .int j => k (.int (i + j))
  | .lst xs, .lst ys => xs.length + ys.length ≤ 1000000 ∧ k (.lst (xs ++ ys))
  | .tup xs, .tup ys => xs.length + ys.length ≤ 1000000 ∧ k (.tup (xs ++ ys))
  | .str s, .str u => s.length + u.length ≤ 1000000 ∧ k (.str (s ++ u))
  | _, _ => False
theorem oAdd_ok {K : PySem.W.Frag} : OpS K (fun x y H Q => (rI0 (fun i j => .int (i + j))) x y H Q ∨ ((rCat x y H Q ∨ rCatA K x y H Q) ∨ ∃ i j, x = .str i ∧ y = .str j ∧ i.length + j.length ≤ sizeLine ∧ Q (.str (i ++ j)) H)) oAdd := by
  intro t F H T x y v w k Q wt r1 r2 q f
  unfold oAdd at q
  split at q
  · exact .inl (oI_ok wt r1 r2 q f)
  · exact .inr (oCat_ok wt r1 r2 q f)
  · exact .inr (oCat_ok wt r1 r2 q f)
  · exact .inr (oCat_ok wt r1 r2 q f)
  · exact q.elim
def repD (xs : List D) (n : Nat) : List D := (List.replicate n xs).flatten
theorem rep_flat {K : PySem.W.Frag} {F : Hp} {ds : List D} {vs : List V} (r : RepL K F ds vs) : ∀ n : Nat, RepL K F (repD ds n) (List.replicate n vs).flatten
  | 0 => .nil
  | n + 1 => by
    show RepL K F ((List.replicate (n + 1) ds).flatten) _
    rw [List.replicate_succ, List.flatten_cons, List.replicate_succ, List.flatten_cons]
    exact r.app (rep_flat r n)
def oMul : Op2 := fun x y k => match x, y with
  | .int i, .int j => MulOk i j ∧ k (.int (i * j))
  | .lst xs, .int n => (-(2 ^ 63) ≤ n ∧ n < 2 ^ 63 ∧ xs.length * n.toNat ≤ 1000000) ∧ k (.lst (repD xs n.toNat))
  | _, _ => False
theorem oMul_ok {K : PySem.W.Frag} : OpS K (fun x y H Q => (rI MulOk (fun i j => .int (i * j))) x y H Q ∨ rRep x y H Q) oMul := by
  intro t F H T x y v w k Q wt r1 r2 q f
  unfold oMul at q
  split at q
  · exact .inl (oIC_ok wt r1 r2 q f)
  · obtain ⟨a, vs, rfl, h1, r1⟩ := rep_lst r1
    cases r2
    exact .inr ⟨a, _, vs, rfl, rfl, wt.sub _ _ h1, q.1.1, q.1.2.1, by rw [← r1.len]; exact small_line q.1.2.2, fun p hp => f.lst wt (rep_flat r1 _) hp q.2⟩
  · exact q.elim
def oEqU : Op2 := fun x y k => match x, y with
  | .int i, .int j => k (.bl (decide (i = j)))
  | .str i, .str j => k (.bl (decide (i = j)))
  | .bl i, .bl j => k (.bl (decide (i = j)))
  | x, y => x.eqOk ∧ y.eqOk ∧ k (.bl (eqD x y))
def oNeU : Op2 := fun x y k => match x, y with
  | .int i, .int j => k (.bl (!decide (i = j)))
  | .str i, .str j => k (.bl (!decide (i = j)))
  | .bl i, .bl j => k (.bl (!decide (i = j)))
  | x, y => x.eqOk ∧ y.eqOk ∧ k (.bl (!eqD x y))
theorem oEqU_ok {K : PySem.W.Frag} : OpS K (fun x y H Q => rEq x y H Q ∨ rEqD K x y H Q) oEqU := by
  intro t F H T x y v w k Q wt r1 r2 q f
  unfold oEqU at q
  split at q
  · exact .inl (oEqI_ok wt r1 r2 q f)
  · exact .inl (oEqI_ok wt r1 r2 q f)
  · exact .inl (oEqI_ok wt r1 r2 q f)
  · exact .inr (oEq_ok wt r1 r2 q f)
theorem oNeU_ok {K : PySem.W.Frag} : OpS K (fun x y H Q => rNe x y H Q ∨ rNeD K x y H Q) oNeU := by
  intro t F H T x y v w k Q wt r1 r2 q f
  unfold oNeU at q
  split at q
  · exact .inl (oNeI_ok wt r1 r2 q f)
  · exact .inl (oNeI_ok wt r1 r2 q f)
  · exact .inl (oNeI_ok wt r1 r2 q f)
  · exact .inr (oNe_ok wt r1 r2 q f)
theorem room66 {n : Nat} {A : Around} (r : Room n A) : A.units + 66 < cLine := by have := r.un; omega
variable {n : Nat}
theorem t_isN {j pos'} (ha : PEd X a fa) : PTd X (.Compare a [.Is] [.Constant .none j pos'] pos) (dTst (dIsN fa)) := by
  refine pt_imp (pt_cmp (pc_isN ha)) fun σ H Q h => ?_
  obtain ⟨ρ, T, t, F, k, w, h, f⟩ := h
  refine ⟨ρ, T, t, F, _, w, h, fun v H1 F1 x T1 w1 g1 r1 h1 => ⟨_, rfl, ?_⟩⟩
  rw [rep_isNon r1]
  exact f _ _ _ _ w1 g1 h1
theorem t_notN {j pos'} (ha : PEd X a fa) : PTd X (.Compare a [.IsNot] [.Constant .none j pos'] pos) (dTst (dNotN fa)) := by
  refine pt_imp (pt_cmp (pc_notN ha)) fun σ H Q h => ?_
  obtain ⟨ρ, T, t, F, k, w, h, f⟩ := h
  refine ⟨ρ, T, t, F, _, w, h, fun v H1 F1 x T1 w1 g1 r1 h1 => ⟨_, rfl, ?_⟩⟩
  rw [rep_isNon r1]
  exact f _ _ _ _ w1 g1 h1
/-- a constant of the module -/
def GC (K : PySem.W.Frag) (mg : Str → Option Value) (x : Str) (d : D) : Prop := ∃ v u, mg x = some u ∧ RelV v u ∧ ∀ F, Rep K F d v
theorem d_gc {x : Str} {d : D} (h : GC X.K X.mg x d) (hg : Gl X x := by rfl) (hd : (x == ("__debug__" : Str)) = false := by decide) : PEd X (.Name x pos) (dC d) := by
  obtain ⟨v, u, h1, h2, h3⟩ := h
  exact d_glob hg h1 h2 h3 hd
mutual
inductive GRep (K : PySem.W.Frag) : D → Value → Prop
  | int (i : Int) (t : Tok) : GRep K (.int i) (.int i t)
  | str (i : Str) (t : Tok) : GRep K (.str i) (.str i t)
  | bl (b : Bool) : GRep K (.bl b) (.bool b)
  | non : GRep K .non .none
  | tup {a : Addr} {dd : Option Addr} {its : Array Value} {n : Nat} {sl : Array (Option Value)} {ds : List D} : K.lookup a = some ⟨.type "tuple", dd, .seq its n, sl⟩ → GRepL K ds its.toList → its.size ≤ 1000000 → GRep K (.tup ds) (.ref a)
inductive GRepL (K : PySem.W.Frag) : List D → List Value → Prop
  | nil : GRepL K [] []
  | cons {d : D} {u : Value} {ds : List D} {us : List Value} : GRep K d u → GRepL K ds us → GRepL K (d :: ds) (u :: us)
end
mutual
theorem GRep.rep {K : PySem.W.Frag} : ∀ {d : D} {u : Value}, GRep K d u → ∃ v, RelV v u ∧ ∀ F, Rep K F d v
  | _, _, .int i t => ⟨.int i, ⟨t, rfl⟩, fun _ => .int i⟩
  | _, _, .str i t => ⟨.str i, ⟨t, rfl⟩, fun _ => .str i⟩
  | _, _, .bl b => ⟨.bl b, rfl, fun _ => .bl b⟩
  | _, _, .non => ⟨.non, rfl, fun _ => .non⟩
  | _, _, .tup (a := a) h q z => by
    obtain ⟨vs, h1, h2⟩ := GRepL.rep q
    exact ⟨.ref a, rfl, fun F => .tup (.inr ⟨_, _, _, h, rfl, rfl, small_line z, h1⟩) (h2 F)⟩
theorem GRepL.rep {K : PySem.W.Frag} : ∀ {ds : List D} {us : List Value}, GRepL K ds us → ∃ vs, Vals vs us ∧ ∀ F, RepL K F ds vs
  | _, _, .nil => ⟨[], .nil, fun _ => .nil⟩
  | _, _, .cons h q => by
    obtain ⟨v, h1, h2⟩ := GRep.rep h
    obtain ⟨vs, h3, h4⟩ := GRepL.rep q
    exact ⟨v :: vs, .cons h1 h3, fun F => .cons (h2 F) (h4 F)⟩
end
theorem gc_of {K : PySem.W.Frag} {mg : Str → Option Value} {h : Heap} {x : Str} {d : D} {u : Value} (X : K.In h) (G : h.Ns mainGlobals mg) (a : PySem.W.nsIn K mainGlobals x = some (some u)) (r : GRep K d u) : GC K mg x d := by
  obtain ⟨v, h1, h2⟩ := r.rep
  exact ⟨v, u, PySem.W.mg_of X G a, h1, h2⟩
/-- three at once -/
def sPar3 (i j l : Nat) (fr : dA) : dS := fun k ρ T => fr ρ T fun as T1 => match as with | [.val d, .val e, .val f] => k.nx (((ρ.set i (some (.val d))).set j (some (.val e))).set l (some (.val f))) T1 | _ => False
theorem s_par3 (i j l : Nat) {x y z : Str} {px py pz pt : Pos} {kt k2 pt2} (hc : X.calm = true) (hN : X.N.Nodup) (ha : PAd X [a, b, c] fr) (hw : swappedStores [.Tuple [.Name x px, .Name y py, .Name z pz] kt pt] (.Tuple [a, b, c] k2 pt2) X.env = pure (some [x, y, z]) := by rfl)
    (hi : X.N[i]? = some x := by rfl) (hj : X.N[j]? = some y := by rfl) (hl : X.N[l]? = some z := by rfl) (hij : i ≠ j := by decide) (hil : i ≠ l := by decide) (hjl : j ≠ l := by decide)
    (hx : X.env.scope.names.lookup x = some .local := by rfl) (hy : X.env.scope.names.lookup y = some .local := by rfl) (hz : X.env.scope.names.lookup z = some .local := by rfl)
    (hs : swapsWithSole [.Tuple [.Name x px, .Name y py, .Name z pz] kt pt] (.Tuple [a, b, c] k2 pt2) pos.line X.env = pure false := by rfl) :
    PSd X (.Assign [.Tuple [.Name x px, .Name y py, .Name z pz] kt pt] (.Tuple [a, b, c] k2 pt2) pos) (sPar3 i j l fr) := by
  refine ps_imp (ps_par3 hc hN hi hj hl hij hil hjl hx hy hz ha hw hs) fun E σ H h => ?_
  obtain ⟨ρ, T, t, F0, H0, F, k, w, h, fe⟩ := h
  refine ⟨ρ, T, t, F, _, w.w, h, fun vs H1 F1 as T1 w1 g1 r1 h1 => ?_⟩
  split at h1
  · cases r1 with
    | val r1 rr =>
      cases rr with
      | val r2 rr =>
        cases rr with
        | val r3 rr =>
          cases rr
          exact ⟨_, _, _, rfl, fe.nx _ _ _ _ _ ((((w.grow g1 w1).put r1).put r2).put r3) g1.sub h1⟩
  · exact h1.elim
end
end L2.G

namespace L2.G
open PySem PySem.Spec PyProof.Rows
theorem ixN_lit (l n : Nat) : ixN l (no_index (OfNat.ofNat n) : Int) = if n < l then some n else none := by
  have e : (no_index (OfNat.ofNat n) : Int) = (n : Int) := rfl
  rw [e]
  unfold ixN
  rw [if_pos (Int.natCast_nonneg n)]
  by_cases h : n < l
  · rw [if_pos h, if_pos (by omega)]; rfl
  · rw [if_neg h, if_neg (by omega)]
theorem atI_lit {α : Type} (xs : List α) (n : Nat) : atI xs (no_index (OfNat.ofNat n) : Int) = xs[n]? := by
  unfold atI
  rw [ixN_lit]
  by_cases h : n < xs.length
  · rw [if_pos h]; rfl
  · rw [if_neg h]; exact (List.getElem?_eq_none (by omega)).symm
theorem atI_nat' {α : Type} (xs : List α) (n : Nat) : atI xs (n : Int) = xs[n]? := atI_lit xs n
theorem atI_m1 {α : Type} (xs : List α) : atI xs (-1) = xs[xs.length - 1]? := by
  unfold atI ixN
  rw [if_neg (by decide)]
  by_cases h : xs = []
  · subst h; rfl
  · have : 0 < xs.length := List.length_pos_iff.mpr h
    rw [if_pos (by omega)]
    show xs[((-1 : Int) + xs.length).toNat]? = _
    congr 1
    omega
/-- sizes -/
def Sz (n : Nat) (i : Int) : Prop := i.natAbs < 2 ^ n
theorem Sz.mono {m n : Nat} {i : Int} (h : Sz m i) (l : m ≤ n) : Sz n i := Nat.lt_of_lt_of_le h (Nat.pow_le_pow_right (by decide) l)
theorem Sz.add {m n : Nat} {i j : Int} (h : Sz m i) (q : Sz n j) : Sz (max m n + 1) (i + j) := by
  have h1 := h.mono (Nat.le_max_left m n)
  have h2 := q.mono (Nat.le_max_right m n)
  unfold Sz at *
  rw [Nat.pow_succ]
  omega
theorem Sz.sub {m n : Nat} {i j : Int} (h : Sz m i) (q : Sz n j) : Sz (max m n + 1) (i - j) := by
  have h1 := h.mono (Nat.le_max_left m n)
  have h2 := q.mono (Nat.le_max_right m n)
  unfold Sz at *
  rw [Nat.pow_succ]
  omega
theorem Sz.neg {m : Nat} {i : Int} (h : Sz m i) : Sz m (-i) := by unfold Sz at *; omega
theorem Sz.mul {m n : Nat} {i j : Int} (h : Sz m i) (q : Sz n j) : Sz (m + n) (i * j) := wide_lt h q
theorem Sz.mulOk {m n : Nat} {i j : Int} (h : Sz m i) (q : Sz n j) (l : m ≤ 400000) (l' : n ≤ 400000) : MulOk i j := .inr ⟨h.mono l, q.mono l'⟩
theorem Sz.divOk {n : Nat} {i j : Int} (q : Sz n j) (l : n ≤ 9000) (h : 0 < j) : DivOk i j := ⟨h, q.mono l⟩
theorem Sz.small {i : Int} (h : i.natAbs < 2 ^ 64) : Sz 64 i := h
theorem Sz.ediv {m : Nat} {i j : Int} (h : Sz m i) : Sz m (i / j) := by
  unfold Sz at *
  exact Nat.lt_of_le_of_lt (Int.natAbs_ediv_le_natAbs i j) h
theorem sIx_lit (n d k : Nat) : HT.sIx n d (some (no_index (OfNat.ofNat k) : Int)) = min k n := HT.sIx_nat n d k
theorem cut_none {xs : List D} : cutD xs none none = xs := by
  unfold cutD
  simp [HT.sIx_none]
theorem cut_to {xs : List D} (k : Nat) : cutD xs none (some (no_index (OfNat.ofNat k) : Int)) = xs.take k := by
  unfold cutD
  rw [sIx_lit, HT.sIx_none, List.drop_zero, Nat.sub_zero]
  by_cases h : k ≤ xs.length
  · rw [Nat.min_eq_left h]
  · rw [Nat.min_eq_right (by omega), List.take_length, List.take_of_length_le (by omega)]
theorem cut_from {xs : List D} (k : Nat) : cutD xs (some (no_index (OfNat.ofNat k) : Int)) none = xs.drop k := by
  unfold cutD
  rw [sIx_lit, HT.sIx_none]
  by_cases h : k ≤ xs.length
  · rw [Nat.min_eq_left h, List.take_of_length_le (by simp)]
  · rw [Nat.min_eq_right (by omega), Nat.sub_self, List.take_zero, List.drop_eq_nil_of_le (by omega)]
theorem cut_fromto {xs : List D} (j k : Nat) : cutD xs (some (no_index (OfNat.ofNat j) : Int)) (some (no_index (OfNat.ofNat k) : Int)) = (xs.take k).drop j := by
  unfold cutD
  rw [sIx_lit, sIx_lit, List.drop_take]
  by_cases h : j ≤ xs.length
  · rw [Nat.min_eq_left h]
    by_cases h2 : k ≤ xs.length
    · rw [Nat.min_eq_left h2]
    · rw [Nat.min_eq_right (by omega), List.take_of_length_le (by simp), List.take_of_length_le (by simp; omega)]
  · rw [Nat.min_eq_right (show xs.length ≤ j by omega), List.drop_eq_nil_of_le (show xs.length ≤ xs.length from Nat.le_refl _), List.drop_eq_nil_of_le (show xs.length ≤ j by omega), List.take_nil, List.take_nil]
end L2.G

namespace L2.G
open PySem PySem.Spec PyProof.Rows
/-! the same operations as functions of data: what must hold, and the value -/
abbrev PD := Option (Prop × D)
def oF (f : D → D → PD) : Op2 := fun x y k => match f x y with | some p => p.1 ∧ k p.2 | none => False
def oG (f : List D → PD) (ds : List D) (k : D → Prop) : Prop := match f ds with | some p => p.1 ∧ k p.2 | none => False
theorem OpS.imp {K : PySem.W.Frag} {r : R2} {o o' : Op2} (h : OpS K r o) (i : ∀ x y k, o' x y k → o x y k) : OpS K r o' := fun w r1 r2 q f => h w r1 r2 (i _ _ _ q) f
theorem BltS.imp {K : PySem.W.Frag} {r : List V → Hp → VK → Prop} {o o' : List D → (D → Prop) → Prop} (h : BltS K r o) (i : ∀ ds k, o' ds k → o ds k) : BltS K r o' := fun w r1 q f => h w r1 (i _ _ q) f
def fAdd : D → D → PD
  | .int i, .int j => some (True, .int (i + j))
  | .lst xs, .lst ys => some (xs.length + ys.length ≤ 1000000, .lst (xs ++ ys))
  | .tup xs, .tup ys => some (xs.length + ys.length ≤ 1000000, .tup (xs ++ ys))
  | .str s, .str u => some (s.length + u.length ≤ 1000000, .str (s ++ u))
  | _, _ => none
def fSub : D → D → PD
  | .int i, .int j => some (True, .int (i - j))
  | .bl b, .bl c => some (True, .int (b2i b - b2i c))
  | _, _ => none
def rSubB (x y : V) (H : Hp) (Q : VK) : Prop := ∃ b c : Bool, x = .bl b ∧ y = .bl c ∧ Q (.int (b2i b - b2i c)) H
theorem op_subB {X : Cx} : OpR X (binaryOp .Sub) rSubB := by
  intro pins s σ H x y v u Q I rx ry h
  obtain ⟨b, c, rfl, rfl, q⟩ := h
  cases rx
  cases ry
  exact PyProof.Rows.sub_bool ⟨.int (b2i b - b2i c), H, I.tok _, ⟨_, rfl⟩, q⟩
def oSubB : Op2 := fun x y k => match x, y with
  | .int i, .int j => k (.int (i - j))
  | .bl b, .bl c => k (.int (b2i b - b2i c))
  | _, _ => False
theorem oSubB_ok {K : PySem.W.Frag} : OpS K (fun x y H Q => (rI0 (fun i j => .int (i - j))) x y H Q ∨ rSubB x y H Q) oSubB := by
  intro t F H T x y v w k Q wt r1 r2 q f
  unfold oSubB at q
  split at q
  · exact .inl (oI_ok wt r1 r2 q f)
  · cases r1
    cases r2
    exact .inr ⟨_, _, rfl, rfl, f.val wt (.int _) q⟩
  · exact q.elim
def fMul : D → D → PD
  | .int i, .int j => some (MulOk i j, .int (i * j))
  | .lst xs, .int n => some (-(2 ^ 63) ≤ n ∧ n < 2 ^ 63 ∧ xs.length * n.toNat ≤ 1000000, .lst (repD xs n.toNat))
  | _, _ => none
def fDiv : D → D → PD | .int i, .int j => some (DivOk i j, .int (i / j)) | _, _ => none
def fMod : D → D → PD | .int i, .int j => some (0 < j, .int (i % j)) | _, _ => none
def fPow : D → D → PD | .int i, .int j => some (CPow i j, .int (i ^ j.toNat)) | _, _ => none
def fShl : D → D → PD | .int i, .int j => some (CPow i j, .int (i * 2 ^ j.toNat)) | _, _ => none
def fLt : D → D → PD | .int i, .int j => some (True, .bl (decide (i < j))) | _, _ => none
def fLe : D → D → PD | .int i, .int j => some (True, .bl (decide (i ≤ j))) | _, _ => none
def fGt : D → D → PD | .int i, .int j => some (True, .bl (decide (j < i))) | _, _ => none
def fGe : D → D → PD | .int i, .int j => some (True, .bl (decide (j ≤ i))) | _, _ => none
def fEq (x y : D) : PD := match x, y with
  | .int i, .int j => some (True, .bl (decide (i = j)))
  | .str i, .str j => some (True, .bl (decide (i = j)))
  | .bl i, .bl j => some (True, .bl (decide (i = j)))
  | x, y => some (x.eqOk ∧ y.eqOk, .bl (eqD x y))
def fNe (x y : D) : PD := match x, y with
  | .int i, .int j => some (True, .bl (!decide (i = j)))
  | .str i, .str j => some (True, .bl (!decide (i = j)))
  | .bl i, .bl j => some (True, .bl (!decide (i = j)))
  | x, y => some (x.eqOk ∧ y.eqOk, .bl (!eqD x y))
theorem fEq_int {i j : Int} : fEq (.int i) (.int j) = some (True, .bl (decide (i = j))) := rfl
theorem fEq_str {i j : Str} : fEq (.str i) (.str j) = some (True, .bl (decide (i = j))) := rfl
theorem fEq_bl {i j : Bool} : fEq (.bl i) (.bl j) = some (True, .bl (decide (i = j))) := rfl
theorem fEq_tup {x y : List D} : fEq (.tup x) (.tup y) = some ((D.tup x).eqOk ∧ (D.tup y).eqOk, .bl (eqD (.tup x) (.tup y))) := rfl
theorem fEq_lst {x y : List D} : fEq (.lst x) (.lst y) = some ((D.lst x).eqOk ∧ (D.lst y).eqOk, .bl (eqD (.lst x) (.lst y))) := rfl
theorem fEq_tn {x : List D} : fEq (.tup x) .non = some ((D.tup x).eqOk ∧ D.non.eqOk, .bl (eqD (.tup x) .non)) := rfl
theorem fEq_nt {x : List D} : fEq .non (.tup x) = some (D.non.eqOk ∧ (D.tup x).eqOk, .bl (eqD .non (.tup x))) := rfl
theorem fEq_nn : fEq .non .non = some (D.non.eqOk ∧ D.non.eqOk, .bl (eqD .non .non)) := rfl
theorem fNe_int {i j : Int} : fNe (.int i) (.int j) = some (True, .bl (!decide (i = j))) := rfl
theorem fNe_str {i j : Str} : fNe (.str i) (.str j) = some (True, .bl (!decide (i = j))) := rfl
theorem fNe_bl {i j : Bool} : fNe (.bl i) (.bl j) = some (True, .bl (!decide (i = j))) := rfl
theorem fNe_tup {x y : List D} : fNe (.tup x) (.tup y) = some ((D.tup x).eqOk ∧ (D.tup y).eqOk, .bl (!eqD (.tup x) (.tup y))) := rfl
theorem fNe_lst {x y : List D} : fNe (.lst x) (.lst y) = some ((D.lst x).eqOk ∧ (D.lst y).eqOk, .bl (!eqD (.lst x) (.lst y))) := rfl
theorem fNe_tn {x : List D} : fNe (.tup x) .non = some ((D.tup x).eqOk ∧ D.non.eqOk, .bl (!eqD (.tup x) .non)) := rfl
theorem fNe_nt {x : List D} : fNe .non (.tup x) = some (D.non.eqOk ∧ (D.tup x).eqOk, .bl (!eqD .non (.tup x))) := rfl
theorem fNe_nn : fNe .non .non = some (D.non.eqOk ∧ D.non.eqOk, .bl (!eqD .non .non)) := rfl
def fIn (x y : D) : PD := match y with | .lst ys => some (x.eqOk ∧ D.eqOk (.lst ys), .bl (ys.any fun z => eqD z x)) | _ => none
def fNotIn (x y : D) : PD := match y with | .lst ys => some (x.eqOk ∧ D.eqOk (.lst ys), .bl (!ys.any fun z => eqD z x)) | _ => none
def D.seq? : D → Option (List D) | .tup xs => some xs | .lst xs => some xs | .scr xs => some xs | _ => none
def fIx (x y : D) : PD := match y with | .int i => (match x.seq? with | some xs => (match atI xs i with | some d => some (True, d) | none => none) | none => none) | _ => none
theorem fAdd_ok {x y : D} {k : D → Prop} (h : oF fAdd x y k) : oAdd x y k := by cases x <;> cases y <;> first | exact h.elim | (obtain ⟨h1, h2⟩ := h; first | exact h2 | exact ⟨h1, h2⟩)
theorem fSub_ok {x y : D} {k : D → Prop} (h : oF fSub x y k) : oSubB x y k := by cases x <;> cases y <;> first | exact h.elim | exact h.2
theorem fMul_ok {x y : D} {k : D → Prop} (h : oF fMul x y k) : oMul x y k := by cases x <;> cases y <;> first | exact h.elim | exact h
theorem fDiv_ok {x y : D} {k : D → Prop} (h : oF fDiv x y k) : oIC DivOk (fun i j => i / j) x y k := by cases x <;> cases y <;> first | exact h.elim | exact h
theorem fMod_ok {x y : D} {k : D → Prop} (h : oF fMod x y k) : oIC (fun _ j => 0 < j) (fun i j => i % j) x y k := by cases x <;> cases y <;> first | exact h.elim | exact h
theorem fPow_ok {x y : D} {k : D → Prop} (h : oF fPow x y k) : oIC CPow (fun i j => i ^ j.toNat) x y k := by cases x <;> cases y <;> first | exact h.elim | exact h
theorem fLt_ok {x y : D} {k : D → Prop} (h : oF fLt x y k) : oB (fun i j => decide (i < j)) x y k := by cases x <;> cases y <;> first | exact h.elim | exact h.2
theorem fLe_ok {x y : D} {k : D → Prop} (h : oF fLe x y k) : oB (fun i j => decide (i ≤ j)) x y k := by cases x <;> cases y <;> first | exact h.elim | exact h.2
theorem fGt_ok {x y : D} {k : D → Prop} (h : oF fGt x y k) : oB (fun i j => decide (j < i)) x y k := by cases x <;> cases y <;> first | exact h.elim | exact h.2
theorem fGe_ok {x y : D} {k : D → Prop} (h : oF fGe x y k) : oB (fun i j => decide (j ≤ i)) x y k := by cases x <;> cases y <;> first | exact h.elim | exact h.2
theorem fEq_ok {x y : D} {k : D → Prop} (h : oF fEq x y k) : oEqU x y k := by cases x <;> cases y <;> first | exact h.2 | exact ⟨h.1.1, h.1.2, h.2⟩
theorem fNe_ok {x y : D} {k : D → Prop} (h : oF fNe x y k) : oNeU x y k := by cases x <;> cases y <;> first | exact h.2 | exact ⟨h.1.1, h.1.2, h.2⟩
theorem fIx_ok {x y : D} {k : D → Prop} (h : oF fIx x y k) : oIx x y k := by
  cases y <;> first | exact h.elim | skip
  rename_i i
  cases x <;> first | exact h.elim | skip
  all_goals
    rename_i xs
    unfold oF fIx D.seq? at h
    unfold oIx
    simp only at h ⊢
    cases e : atI xs i with
    | none => rw [e] at h; exact h.elim
    | some d => rw [e] at h; exact h.2
section
variable {X : Cx} {a b e : Expr} {fa fb fe : dE} {fr : dA} {p pos : Pos} {n : Nat} {es : List Expr} {tg : Expr}
theorem f_add (ha : PEd X a fa) (hb : PEd X b fb) : PEd X (.BinOp a .Add b pos) (dOp (oF fAdd) fa fb) := d_op (op_add.or ((op_cat.or op_catA).or op_add_str)) (oAdd_ok.imp fun _ _ _ => fAdd_ok) ha hb
theorem f_sub (ha : PEd X a fa) (hb : PEd X b fb) : PEd X (.BinOp a .Sub b pos) (dOp (oF fSub) fa fb) := d_op (op_sub.or op_subB) (oSubB_ok.imp fun _ _ _ => fSub_ok) ha hb
theorem f_mul (ha : PEd X a fa) (hb : PEd X b fb) : PEd X (.BinOp a .Mult b pos) (dOp (oF fMul) fa fb) := d_op (op_mulQ.or op_rep) (oMul_ok.imp fun _ _ _ => fMul_ok) ha hb
theorem f_div (ha : PEd X a fa) (hb : PEd X b fb) : PEd X (.BinOp a .FloorDiv b pos) (dOp (oF fDiv) fa fb) := d_op op_divQ (oIC_ok.imp fun _ _ _ => fDiv_ok) ha hb
theorem f_mod (ha : PEd X a fa) (hb : PEd X b fb) : PEd X (.BinOp a .Mod b pos) (dOp (oF fMod) fa fb) := d_op op_mod (oIC_ok.imp fun _ _ _ => fMod_ok) ha hb
theorem f_pow (ha : PEd X a fa) (hb : PEd X b fb) : PEd X (.BinOp a .Pow b pos) (dOp (oF fPow) fa fb) := d_op op_pow (oIC_ok.imp fun _ _ _ => fPow_ok) ha hb
theorem f_ix (ha : PEd X a fa) (hb : PEd X b fb) (hs : PlainIx b := by exact fun _ _ => rfl) : PEd X (.Subscript a b pos) (dOp (oF fIx) fa fb) :=
  pe_imp (pe_ix (ix_list.or ix_tup) ha hb hs) fun σ H Q h => two (o := fun x y T k => oF fIx x y fun d => k d T) (R := fun x y H Q => rIxL X.K x y H Q ∨ rIxT X.K x y H Q) (fun w r1 r2 q f => oIx_ok w r1 r2 (fIx_ok q) f) h
theorem d_flt (ha : PEd X a fa) (hb : PEd X b fb) : PEd X (.Compare a [.Lt] [b] pos) (dOp (oF fLt) fa fb) := d_cmp op_lt (oB_ok.imp fun _ _ _ => fLt_ok) ha hb (nomark _)
theorem d_fle (ha : PEd X a fa) (hb : PEd X b fb) : PEd X (.Compare a [.LtE] [b] pos) (dOp (oF fLe) fa fb) := d_cmp op_le (oB_ok.imp fun _ _ _ => fLe_ok) ha hb (nomark _)
theorem d_fgt (ha : PEd X a fa) (hb : PEd X b fb) : PEd X (.Compare a [.Gt] [b] pos) (dOp (oF fGt) fa fb) := d_cmp op_gt (oB_ok.imp fun _ _ _ => fGt_ok) ha hb (nomark _)
theorem t_flt (ha : PEd X a fa) (hb : PEd X b fb) : PTd X (.Compare a [.Lt] [b] pos) (dTst (dOp (oF fLt) fa fb)) := d_tcmp op_lt (oB_ok.imp fun _ _ _ => fLt_ok) ha hb (nomark _)
theorem t_fle (ha : PEd X a fa) (hb : PEd X b fb) : PTd X (.Compare a [.LtE] [b] pos) (dTst (dOp (oF fLe) fa fb)) := d_tcmp op_le (oB_ok.imp fun _ _ _ => fLe_ok) ha hb (nomark _)
theorem t_fgt (ha : PEd X a fa) (hb : PEd X b fb) : PTd X (.Compare a [.Gt] [b] pos) (dTst (dOp (oF fGt) fa fb)) := d_tcmp op_gt (oB_ok.imp fun _ _ _ => fGt_ok) ha hb (nomark _)
theorem t_fge (ha : PEd X a fa) (hb : PEd X b fb) : PTd X (.Compare a [.GtE] [b] pos) (dTst (dOp (oF fGe) fa fb)) := d_tcmp op_ge (oB_ok.imp fun _ _ _ => fGe_ok) ha hb (nomark _)
theorem d_feq (hr : Room n X.A) (ha : PEd X a fa) (hb : PEd X b fb) : PEd X (.Compare a [.Eq] [b] pos) (dOp (oF fEq) fa fb) := d_cmp (op_eq.or (op_eqD (by have := room66 hr; omega))) (oEqU_ok.imp fun _ _ _ => fEq_ok) ha hb (nomark _)
theorem d_fne (hr : Room n X.A) (ha : PEd X a fa) (hb : PEd X b fb) : PEd X (.Compare a [.NotEq] [b] pos) (dOp (oF fNe) fa fb) := d_cmp (op_ne.or (op_neD (by have := room66 hr; omega))) (oNeU_ok.imp fun _ _ _ => fNe_ok) ha hb (nomark _)
theorem t_feq (hr : Room n X.A) (ha : PEd X a fa) (hb : PEd X b fb) : PTd X (.Compare a [.Eq] [b] pos) (dTst (dOp (oF fEq) fa fb)) := d_tcmp (op_eq.or (op_eqD (by have := room66 hr; omega))) (oEqU_ok.imp fun _ _ _ => fEq_ok) ha hb (nomark _)
theorem t_fne (hr : Room n X.A) (ha : PEd X a fa) (hb : PEd X b fb) : PTd X (.Compare a [.NotEq] [b] pos) (dTst (dOp (oF fNe) fa fb)) := d_tcmp (op_ne.or (op_neD (by have := room66 hr; omega))) (oNeU_ok.imp fun _ _ _ => fNe_ok) ha hb (nomark _)
/-! built-ins -/
def fLen : List D → PD | [d] => (match d.seq? with | some xs => some (True, .int xs.length) | none => none) | _ => none
def fI1 (g : Int → Int) : List D → PD | [.int i] => some (True, .int (g i)) | _ => none
def fI2 (g : Int → Int → Int) : List D → PD | [.int i, .int j] => some (True, .int (g i j)) | _ => none
def fInt : List D → PD | [.int i] => some (True, .int i) | [.bl b] => some (True, .int (if b then 1 else 0)) | _ => none
def fSqrt : List D → PD | [.int i] => some (0 ≤ i ∧ i.natAbs < 2 ^ 13000, .int ((Float64.isqrt i.toNat : Nat) : Int)) | _ => none
def fDivmod : List D → PD | [.int i, .int j] => some (DmOk i j, .tup [.int (i / j), .int (i % j)]) | _ => none
def fAll : List D → PD | [.lst xs] => (match bls? xs with | some bs => some (True, .bl (bs.all fun b => b)) | none => none) | _ => none
def fAny : List D → PD | [.lst xs] => (match bls? xs with | some bs => some (True, .bl (bs.any fun b => b)) | none => none) | _ => none
def fSum : List D → PD | [.lst xs] => (match nums? xs with | some bs => some (True, .int bs.sum) | none => none) | _ => none
def fTuple : List D → PD | [.lst xs] => some (True, .tup xs) | [.tup xs] => some (True, .tup xs) | _ => none
def fList : List D → PD | [d] => (match d.seq? with | some xs => some (True, .lst xs) | none => none) | _ => none
def fRepr : List D → PD | [.int i] => some (i.natAbs.log2 < 1920, .str (toString i)) | [.tup xs] => some (D.shOk (.tup xs), .str (D.py (.tup xs)).shown) | [.lst xs] => some (D.shOk (.lst xs), .str (D.py (.lst xs)).shown) | [.bl b] => some (True, .str (if b then "True" else "False")) | [.non] => some (True, .str "None") | _ => none
theorem fLen_ok {ds : List D} {k : D → Prop} (h : oG fLen ds k) : oLen ds k := by
  cases ds with
  | nil => exact h.elim
  | cons d r => cases r with
    | nil => cases d <;> first | exact h.elim | exact h.2
    | cons _ _ => cases d <;> exact h.elim
theorem one_ok {f : List D → PD} {o : List D → (D → Prop) → Prop} (h0 : ∀ k, oG f [] k → o [] k) (h1 : ∀ d k, oG f [d] k → o [d] k) (h2 : ∀ d e r k, oG f (d :: e :: r) k → o (d :: e :: r) k) {ds : List D} {k : D → Prop} (h : oG f ds k) : o ds k := by
  match ds with
  | [] => exact h0 k h
  | [d] => exact h1 d k h
  | d :: e :: r => exact h2 d e r k h
theorem fI1_ok {g : Int → Int} {ds : List D} {k : D → Prop} (h : oG (fI1 g) ds k) : o1 g ds k := by
  refine one_ok (f := fI1 g) (o := o1 g) ?_ ?_ ?_ h
  · intro k h; exact h.elim
  · intro d k h; cases d <;> first | exact h.elim | exact h.2
  · intro d e r k h; cases d <;> exact h.elim
theorem fI2_ok {g : Int → Int → Int} {ds : List D} {k : D → Prop} (h : oG (fI2 g) ds k) : o2 g ds k := by
  refine one_ok (f := fI2 g) (o := o2 g) ?_ ?_ ?_ h
  · intro k h; exact h.elim
  · intro d k h; cases d <;> exact h.elim
  · intro d e r k h
    cases r with
    | nil => cases d <;> cases e <;> first | exact h.elim | exact h.2
    | cons _ _ => cases d <;> cases e <;> exact h.elim
theorem fInt_ok {ds : List D} {k : D → Prop} (h : oG fInt ds k) : oIntB ds k := by
  refine one_ok (f := fInt) (o := oIntB) ?_ ?_ ?_ h
  · intro k h; exact h.elim
  · intro d k h; cases d <;> first | exact h.elim | exact h.2
  · intro d e r k h; cases d <;> exact h.elim
theorem fSqrt_ok {ds : List D} {k : D → Prop} (h : oG fSqrt ds k) : oSqrt ds k := by
  refine one_ok (f := fSqrt) (o := oSqrt) ?_ ?_ ?_ h
  · intro k h; exact h.elim
  · intro d k h; cases d <;> first | exact h.elim | exact h
  · intro d e r k h; cases d <;> exact h.elim
theorem fDivmod_ok {ds : List D} {k : D → Prop} (h : oG fDivmod ds k) : oDivmod ds k := by
  refine one_ok (f := fDivmod) (o := oDivmod) ?_ ?_ ?_ h
  · intro k h; exact h.elim
  · intro d k h; cases d <;> exact h.elim
  · intro d e r k h
    cases r with
    | nil => cases d <;> cases e <;> first | exact h.elim | exact h
    | cons _ _ => cases d <;> cases e <;> exact h.elim
theorem fAll_ok {ds : List D} {k : D → Prop} (h : oG fAll ds k) : oAll ds k := by
  refine one_ok (f := fAll) (o := oAll) ?_ ?_ ?_ h
  · intro k h; exact h.elim
  · intro d k h
    cases d <;> first | exact h.elim | skip
    rename_i xs
    unfold oG fAll at h
    unfold oAll
    simp only at h ⊢
    cases q : bls? xs with
    | none => rw [q] at h; exact h.elim
    | some bs => rw [q] at h; exact h.2
  · intro d e r k h; cases d <;> exact h.elim
theorem fTuple_ok {ds : List D} {k : D → Prop} (h : oG fTuple ds k) : oTuple ds k := by
  refine one_ok (f := fTuple) (o := oTuple) ?_ ?_ ?_ h
  · intro k h; exact h.elim
  · intro d k h; cases d <;> first | exact h.elim | exact h.2
  · intro d e r k h; cases d <;> exact h.elim
theorem fRepr_ok {ds : List D} {k : D → Prop} (h : oG fRepr ds k) : oRepr ds k := by
  refine one_ok (f := fRepr) (o := oRepr) ?_ ?_ ?_ h
  · intro k h; exact h.elim
  · intro d k h; cases d <;> first | exact h.elim | exact h | exact h.2
  · intro d e r k h; cases d <;> exact h.elim
theorem g_len (hm : X.mg "len" = none) (ha : PAd X (e :: es) fr) (hg : Gl X "len" := by rfl)
    (he : starEach (e :: es) X.env = (false, eval e X.env) :: starEach es X.env := by rfl) (hp : (backTo pos (starEach es X.env)).any (·.1) = false := by rfl) : PEd X (.Call (.Name "len" p) (e :: es) [] pos) (dBlt (oG fLen) fr) := d_blt call_len_seq (oLen_ok.imp fun _ _ => fLen_ok) hm ha boot_len hg (by decide) (by decide) he hp
abbrev iAbs : Int → Int := fun i => if i < 0 then -i else i
abbrev iMax : Int → Int → Int := fun i j => if j > i then j else i
abbrev iMin : Int → Int → Int := fun i j => if j < i then j else i
abbrev iGcd : Int → Int → Int := fun a b => ((Nat.gcd a.natAbs b.natAbs : Nat) : Int)
theorem boot_abs' : bootBuiltins "abs" = some (.builtin "abs") := by decide +kernel
theorem boot_max' : bootBuiltins "max" = some (.builtin "max") := by decide +kernel
theorem boot_min' : bootBuiltins "min" = some (.builtin "min") := by decide +kernel
theorem boot_int' : bootBuiltins "int" = some (.type "int") := by decide +kernel
theorem boot_divmod' : bootBuiltins "divmod" = some (.builtin "divmod") := by decide +kernel
theorem boot_all' : bootBuiltins "all" = some (.builtin "all") := by decide +kernel
theorem boot_tuple' : bootBuiltins "tuple" = some (.type "tuple") := by decide +kernel
theorem boot_repr' : bootBuiltins "repr" = some (.builtin "repr") := by decide +kernel
theorem g_abs (hm : X.mg "abs" = none) (ha : PAd X (e :: es) fr) (hg : Gl X "abs" := by rfl)
    (he : starEach (e :: es) X.env = (false, eval e X.env) :: starEach es X.env := by rfl) (hp : (backTo pos (starEach es X.env)).any (·.1) = false := by rfl) : PEd X (.Call (.Name "abs" p) (e :: es) [] pos) (dBlt (oG (fI1 iAbs)) fr) := d_blt call_abs (o1_ok.imp fun _ _ => fI1_ok) hm ha boot_abs' hg (by decide) (by decide) he hp
theorem g_max2 (hc : X.calm = true) (hm : X.mg "max" = none) (ha : PAd X (e :: es) fr) (hg : Gl X "max" := by rfl)
    (he : starEach (e :: es) X.env = (false, eval e X.env) :: starEach es X.env := by rfl) (hp : (backTo pos (starEach es X.env)).any (·.1) = false := by rfl) : PEd X (.Call (.Name "max" p) (e :: es) [] pos) (dBlt (oG (fI2 iMax)) fr) := d_blt (call_max2 hc) (o2_ok.imp fun _ _ => fI2_ok) hm ha boot_max' hg (by decide) (by decide) he hp
theorem g_min2 (hc : X.calm = true) (hm : X.mg "min" = none) (ha : PAd X (e :: es) fr) (hg : Gl X "min" := by rfl)
    (he : starEach (e :: es) X.env = (false, eval e X.env) :: starEach es X.env := by rfl) (hp : (backTo pos (starEach es X.env)).any (·.1) = false := by rfl) : PEd X (.Call (.Name "min" p) (e :: es) [] pos) (dBlt (oG (fI2 iMin)) fr) := d_blt (call_min2 hc) (o2_ok.imp fun _ _ => fI2_ok) hm ha boot_min' hg (by decide) (by decide) he hp
theorem g_gcd (hm : X.mg "gcd" = some (.builtin "math.gcd")) (ha : PAd X (e :: es) fr) (hg : Gl X "gcd" := by rfl)
    (he : starEach (e :: es) X.env = (false, eval e X.env) :: starEach es X.env := by rfl) (hp : (backTo pos (starEach es X.env)).any (·.1) = false := by rfl) : PEd X (.Call (.Name "gcd" p) (e :: es) [] pos) (dBlt (oG (fI2 iGcd)) fr) := d_bfun cr_gcd (o2_ok.imp fun _ _ => fI2_ok) hm ha hg (by decide) he hp
theorem g_toint (hm : X.mg "int" = none) (ha : PAd X (e :: es) fr) (hg : Gl X "int" := by rfl)
    (he : starEach (e :: es) X.env = (false, eval e X.env) :: starEach es X.env := by rfl) (hp : (backTo pos (starEach es X.env)).any (·.1) = false := by rfl) : PEd X (.Call (.Name "int" p) (e :: es) [] pos) (dBlt (oG fInt) fr) := d_blty call_int1 (oIntB_ok.imp fun _ _ => fInt_ok) hm ha boot_int' hg (by decide) (by decide) he hp
theorem g_isqrt (hm : X.mg "isqrt" = some (.builtin "math.isqrt")) (ha : PAd X (e :: es) fr) (hg : Gl X "isqrt" := by rfl)
    (he : starEach (e :: es) X.env = (false, eval e X.env) :: starEach es X.env := by rfl) (hp : (backTo pos (starEach es X.env)).any (·.1) = false := by rfl) : PEd X (.Call (.Name "isqrt" p) (e :: es) [] pos) (dBlt (oG fSqrt) fr) := d_bfun cr_isqrt (oSqrt_ok.imp fun _ _ => fSqrt_ok) hm ha hg (by decide) he hp
theorem g_divmod (hm : X.mg "divmod" = none) (ha : PAd X (e :: es) fr) (hg : Gl X "divmod" := by rfl)
    (he : starEach (e :: es) X.env = (false, eval e X.env) :: starEach es X.env := by rfl) (hp : (backTo pos (starEach es X.env)).any (·.1) = false := by rfl) : PEd X (.Call (.Name "divmod" p) (e :: es) [] pos) (dBlt (oG fDivmod) fr) := d_blt call_divmodQ (oDivmod_ok.imp fun _ _ => fDivmod_ok) hm ha boot_divmod' hg (by decide) (by decide) he hp
theorem g_all (hc : X.calm = true) (hm : X.mg "all" = none) (ha : PAd X (e :: es) fr) (hg : Gl X "all" := by rfl)
    (he : starEach (e :: es) X.env = (false, eval e X.env) :: starEach es X.env := by rfl) (hp : (backTo pos (starEach es X.env)).any (·.1) = false := by rfl) : PEd X (.Call (.Name "all" p) (e :: es) [] pos) (dBlt (oG fAll) fr) := d_blt (cr_all hc) (oAll_ok.imp fun _ _ => fAll_ok) hm ha boot_all' hg (by decide) (by decide) he hp
theorem g_totup (hm : X.mg "tuple" = none) (ha : PAd X (e :: es) fr) (hg : Gl X "tuple" := by rfl)
    (he : starEach (e :: es) X.env = (false, eval e X.env) :: starEach es X.env := by rfl) (hp : (backTo pos (starEach es X.env)).any (·.1) = false := by rfl) : PEd X (.Call (.Name "tuple" p) (e :: es) [] pos) (dBlt (oG fTuple) fr) := d_blty call_tuple_of (oTuple_ok.imp fun _ _ => fTuple_ok) hm ha boot_tuple' hg (by decide) (by decide) he hp
theorem g_repr (hgd : X.A.guards = some []) (hu : X.A.units + 66 < cLine) (hm : X.mg "repr" = none) (ha : PAd X (e :: es) fr) (hg : Gl X "repr" := by rfl)
    (he : starEach (e :: es) X.env = (false, eval e X.env) :: starEach es X.env := by rfl) (hp : (backTo pos (starEach es X.env)).any (·.1) = false := by rfl) : PEd X (.Call (.Name "repr" p) (e :: es) [] pos) (dBlt (oG fRepr) fr) := d_blt (call_reprD hgd hu) (oRepr_ok.imp fun _ _ => fRepr_ok) hm ha boot_repr' hg (by decide) (by decide) he hp
/-! walks, slices -/
def D.it? : D → Option (List D) | .tup xs => some xs | .lst xs => some xs | _ => none
def iQ (fe : dE) : dI := fun ρ T k => fe ρ T fun d T1 => match d.it? with | some xs => xs.length ≤ 1000000 ∧ k xs T1 | none => False
theorem iQ_eq (fe : dE) : iQ fe = iS fe := by
  funext ρ T k
  unfold iQ iS
  congr 1
  funext d T1
  cases d <;> rfl
theorem g_seq (he : PEd X e fe) : PId X tg e (iQ fe) := by
  rw [iQ_eq]
  exact i_seq he
def D.cut? (d : D) (l h : Option Int) : Option D := match d with | .lst xs => some (.lst (cutD xs l h)) | .scr xs => some (.lst (cutD xs l h)) | .tup xs => some (.tup (cutD xs l h)) | _ => none
def dSlQ (fe : dE) (lo hi : dP) : dE := fun ρ T k => fe ρ T fun x T1 => lo ρ T1 fun l T2 => hi ρ T2 fun h T3 => match x.cut? l h with | some d => k d T3 | none => False
theorem dSlQ_eq (fe : dE) (lo hi : dP) : dSlQ fe lo hi = dSl fe lo hi := by
  funext ρ T k
  unfold dSlQ dSl
  congr 1
  funext x T1
  congr 1
  funext l T2
  congr 1
  funext h T3
  cases x <;> rfl
theorem g_slice {lo hi : Option Expr} {fl fh : dP} {p2 : Pos} (he : PEd X e fe) (hl : POd X lo fl) (hh : POd X hi fh) : PEd X (.Subscript e (.Slice lo hi none p2) pos) (dSlQ fe fl fh) := by
  rw [dSlQ_eq]
  exact d_slice he hl hh
end
end L2.G

namespace L2.G
open PySem PySem.Spec PyProof.Rows
section
variable {i j : Int} {b c : Bool} {s u : Str} {xs ys : List D} {d : D}
theorem fAdd_int : fAdd (.int i) (.int j) = some (True, .int (i + j)) := rfl
theorem fAdd_lst : fAdd (.lst xs) (.lst ys) = some (xs.length + ys.length ≤ 1000000, .lst (xs ++ ys)) := rfl
theorem fAdd_tup : fAdd (.tup xs) (.tup ys) = some (xs.length + ys.length ≤ 1000000, .tup (xs ++ ys)) := rfl
theorem fAdd_str : fAdd (.str s) (.str u) = some (s.length + u.length ≤ 1000000, .str (s ++ u)) := rfl
theorem fSub_int : fSub (.int i) (.int j) = some (True, .int (i - j)) := rfl
theorem fSub_bl : fSub (.bl b) (.bl c) = some (True, .int (b2i b - b2i c)) := rfl
theorem fMul_int : fMul (.int i) (.int j) = some (MulOk i j, .int (i * j)) := rfl
theorem fMul_lst : fMul (.lst xs) (.int i) = some (-(2 ^ 63) ≤ i ∧ i < 2 ^ 63 ∧ xs.length * i.toNat ≤ 1000000, .lst (repD xs i.toNat)) := rfl
theorem fDiv_int : fDiv (.int i) (.int j) = some (DivOk i j, .int (i / j)) := rfl
theorem fMod_int : fMod (.int i) (.int j) = some (0 < j, .int (i % j)) := rfl
theorem fPow_int : fPow (.int i) (.int j) = some (CPow i j, .int (i ^ j.toNat)) := rfl
theorem fShl_int : fShl (.int i) (.int j) = some (CPow i j, .int (i * 2 ^ j.toNat)) := rfl
theorem fLt_int : fLt (.int i) (.int j) = some (True, .bl (decide (i < j))) := rfl
theorem fLe_int : fLe (.int i) (.int j) = some (True, .bl (decide (i ≤ j))) := rfl
theorem fGt_int : fGt (.int i) (.int j) = some (True, .bl (decide (j < i))) := rfl
theorem fGe_int : fGe (.int i) (.int j) = some (True, .bl (decide (j ≤ i))) := rfl
theorem fIn_lst : fIn d (.lst ys) = some (d.eqOk ∧ D.eqOk (.lst ys), .bl (ys.any fun z => eqD z d)) := rfl
theorem fNotIn_lst : fNotIn d (.lst ys) = some (d.eqOk ∧ D.eqOk (.lst ys), .bl (!ys.any fun z => eqD z d)) := rfl
def ixR : Option D → PD | some d => some (True, d) | none => none
theorem ixR_some : ixR (some d) = some (True, d) := rfl
theorem fIx_tup : fIx (.tup xs) (.int i) = ixR (atI xs i) := by show (match atI xs i with | some d => some (True, d) | none => none) = ixR (atI xs i); cases atI xs i <;> rfl
theorem fIx_lst : fIx (.lst xs) (.int i) = ixR (atI xs i) := by show (match atI xs i with | some d => some (True, d) | none => none) = ixR (atI xs i); cases atI xs i <;> rfl
theorem fIx_scr : fIx (.scr xs) (.int i) = ixR (atI xs i) := by show (match atI xs i with | some d => some (True, d) | none => none) = ixR (atI xs i); cases atI xs i <;> rfl
theorem fLen_tup : fLen [.tup xs] = some (True, .int xs.length) := rfl
theorem fLen_lst : fLen [.lst xs] = some (True, .int xs.length) := rfl
theorem fLen_scr : fLen [.scr xs] = some (True, .int xs.length) := rfl
theorem fI1_int {g : Int → Int} : fI1 g [.int i] = some (True, .int (g i)) := rfl
theorem fI2_int {g : Int → Int → Int} : fI2 g [.int i, .int j] = some (True, .int (g i j)) := rfl
theorem fInt_int : fInt [.int i] = some (True, .int i) := rfl
theorem fInt_bl : fInt [.bl b] = some (True, .int (if b then 1 else 0)) := rfl
theorem fDivmod_int : fDivmod [.int i, .int j] = some (DmOk i j, .tup [.int (i / j), .int (i % j)]) := rfl
def blR (f : List Bool → Bool) : Option (List Bool) → PD | some bs => some (True, .bl (f bs)) | none => none
theorem blR_some {f : List Bool → Bool} {bs : List Bool} : blR f (some bs) = some (True, .bl (f bs)) := rfl
theorem fAll_lst : fAll [.lst xs] = blR (fun bs => bs.all fun b => b) (bls? xs) := by show (match bls? xs with | some bs => some (True, D.bl (bs.all fun b => b)) | none => none) = blR (fun bs => bs.all fun b => b) (bls? xs); cases bls? xs <;> rfl
theorem fAny_lst : fAny [.lst xs] = blR (fun bs => bs.any fun b => b) (bls? xs) := by show (match bls? xs with | some bs => some (True, D.bl (bs.any fun b => b)) | none => none) = blR (fun bs => bs.any fun b => b) (bls? xs); cases bls? xs <;> rfl
def nuR : Option (List Int) → PD | some bs => some (True, .int bs.sum) | none => none
theorem nuR_some {bs : List Int} : nuR (some bs) = some (True, .int bs.sum) := rfl
theorem fSum_lst : fSum [.lst xs] = nuR (nums? xs) := by show (match nums? xs with | some bs => some (True, D.int bs.sum) | none => none) = nuR (nums? xs); cases nums? xs <;> rfl
theorem fTuple_lst : fTuple [.lst xs] = some (True, .tup xs) := rfl
theorem fTuple_tup : fTuple [.tup xs] = some (True, .tup xs) := rfl
theorem fList_lst : fList [.lst xs] = some (True, .lst xs) := rfl
theorem fList_tup : fList [.tup xs] = some (True, .lst xs) := rfl
theorem fList_scr : fList [.scr xs] = some (True, .lst xs) := rfl
theorem fRepr_int : fRepr [.int i] = some (i.natAbs.log2 < 1920, .str (toString i)) := rfl
theorem fRepr_tup : fRepr [.tup xs] = some (D.shOk (.tup xs), .str (D.py (.tup xs)).shown) := rfl
theorem fRepr_lst : fRepr [.lst xs] = some (D.shOk (.lst xs), .str (D.py (.lst xs)).shown) := rfl
theorem fRepr_bl : fRepr [.bl b] = some (True, .str (if b then "True" else "False")) := rfl
theorem fRepr_non : fRepr [.non] = some (True, .str "None") := rfl
theorem it_tup : (D.tup xs).it? = some xs := rfl
theorem it_lst : (D.lst xs).it? = some xs := rfl
theorem cutq_lst {l h : Option Int} : (D.lst xs).cut? l h = some (.lst (cutD xs l h)) := rfl
theorem cutq_scr {l h : Option Int} : (D.scr xs).cut? l h = some (.lst (cutD xs l h)) := rfl
theorem cutq_tup {l h : Option Int} : (D.tup xs).cut? l h = some (.tup (cutD xs l h)) := rfl
theorem isNon_non : D.non.isNon = true := rfl
theorem isNon_int : (D.int i).isNon = false := rfl
theorem isNon_bl : (D.bl b).isNon = false := rfl
theorem isNon_str : (D.str s).isNon = false := rfl
theorem isNon_tup : (D.tup xs).isNon = false := rfl
theorem isNon_lst : (D.lst xs).isNon = false := rfl
theorem bls_nil : bls? [] = some [] := rfl
theorem bls_cons : bls? (.bl b :: xs) = (bls? xs).map (b :: ·) := rfl
theorem nums_nil : nums? [] = some [] := rfl
theorem nums_cons : nums? (.int i :: xs) = (nums? xs).map (i :: ·) := rfl
theorem all_nil' : ([] : List Bool).all (fun b => b) = true := rfl
theorem all_cons' {bs : List Bool} : (b :: bs).all (fun b => b) = (b && bs.all fun b => b) := rfl
theorem any_nil' : ([] : List Bool).any (fun b => b) = false := rfl
theorem any_cons' {bs : List Bool} : (b :: bs).any (fun b => b) = (b || bs.any fun b => b) := rfl
end
/-- a test's answer that hangs on nothing -/
theorem ifT {A B : Prop} : (if True then A else B) = A := if_pos trivial
theorem ifF {A B : Prop} : (if False then A else B) = B := if_neg (fun h => h)

theorem ifA {A B X Y : Prop} [Decidable A] [Decidable B] : (if A then (if B then X else Y) else Y) = (if A ∧ B then X else Y) := by
  by_cases a : A <;> by_cases b : B <;> simp [a, b]
theorem ifO {A B X Y : Prop} [Decidable A] [Decidable B] : (if A then X else (if B then X else Y)) = (if A ∨ B then X else Y) := by
  by_cases a : A <;> by_cases b : B <;> simp [a, b]
/-! texts of data -/
mutual
/-- numbers below 2 ^ 1900 -/
def D.lite : D → Prop
  | .non => True | .bl _ => True | .int i => i.natAbs < 2 ^ 1900 | .str x => PyData.strOk x = true ∧ PyData.strOk (reprText x) = true ∧ (x.cps.toList.all fun c => decide (c < 16 ^ 8)) = true | .tup xs => D.liteL xs | .lst xs => D.liteL xs | .obj _ _ _ => False | .ref _ => False | .scr _ => False | .dct _ _ => False
def D.liteL : List D → Prop
  | [] => True | x :: r => x.lite ∧ D.liteL r
end
mutual
theorem lite_isPy : ∀ {d : D}, d.lite → d.isPy = true
  | .non, _ => rfl
  | .bl _, _ => rfl
  | .int _, _ => rfl
  | .str _, _ => rfl
  | .tup xs, h => by have := lite_isPyL (ds := xs) (by simpa only [D.lite] using h); simpa only [D.isPy] using this
  | .lst xs, h => by have := lite_isPyL (ds := xs) (by simpa only [D.lite] using h); simpa only [D.isPy] using this
  | .obj _ _ _, h => by simp only [D.lite] at h
  | .ref _, h => by simp only [D.lite] at h
  | .scr _, h => by simp only [D.lite] at h
  | .dct _ _, h => by simp only [D.lite] at h
theorem lite_isPyL : ∀ {ds : List D}, D.liteL ds → D.isPyL ds = true
  | [], _ => rfl
  | x :: r, h => by
    simp only [D.liteL] at h
    simp only [D.isPyL, lite_isPy h.1, lite_isPyL h.2, Bool.and_self]
end
mutual
theorem lite_lay : ∀ {d : D}, d.lite → d.py.canLay0 = true
  | .non, _ => rfl
  | .bl _, _ => rfl
  | .int _, _ => rfl
  | .str _, h => by simp only [D.lite] at h; simp only [D.py, PyData.canLay0]; exact h.1
  | .tup xs, h => by have := lite_layL (ds := xs) (by simpa only [D.lite] using h); simpa only [D.py, PyData.canLay0] using this
  | .lst xs, h => by have := lite_layL (ds := xs) (by simpa only [D.lite] using h); simpa only [D.py, PyData.canLay0] using this
  | .obj _ _ _, h => by simp only [D.lite] at h
  | .ref _, h => by simp only [D.lite] at h
  | .scr _, h => by simp only [D.lite] at h
  | .dct _ _, h => by simp only [D.lite] at h
theorem lite_layL : ∀ {ds : List D}, D.liteL ds → PyData.canLayAll0 (D.pyL ds) = true
  | [], _ => rfl
  | x :: r, h => by
    simp only [D.liteL] at h
    simp only [D.pyL, PyData.canLayAll0, lite_lay h.1, lite_layL h.2, Bool.and_self]
end
theorem log_lt' {i : Int} (h : i.natAbs < 2 ^ 1900) : i.natAbs.log2 < 1900 := by
  by_cases h0 : i.natAbs = 0
  · rw [h0]; decide
  · exact (Nat.log2_lt h0).mpr h
mutual
theorem lite_show : ∀ {d : D}, d.lite → d.py.showable = true
  | .non, _ => rfl
  | .bl _, _ => rfl
  | .int i, h => by
    simp only [D.lite] at h
    have := log_lt' h
    simp only [D.py, PyData.showable, decide_eq_true_eq]
    omega
  | .str _, h => rfl
  | .tup xs, h => by have := lite_showL (ds := xs) (by simpa only [D.lite] using h); simpa only [D.py, PyData.showable] using this
  | .lst xs, h => by have := lite_showL (ds := xs) (by simpa only [D.lite] using h); simpa only [D.py, PyData.showable] using this
  | .obj _ _ _, h => by simp only [D.lite] at h
  | .ref _, h => by simp only [D.lite] at h
  | .scr _, h => by simp only [D.lite] at h
  | .dct _ _, h => by simp only [D.lite] at h
theorem lite_showL : ∀ {ds : List D}, D.liteL ds → PyData.showableAll (D.pyL ds) = true
  | [], _ => rfl
  | x :: r, h => by
    simp only [D.liteL] at h
    simp only [D.pyL, PyData.showableAll, lite_show h.1, lite_showL h.2, Bool.and_self]
end
mutual
theorem lite_short : ∀ {d : D}, d.lite → d.py.leavesShort 2000 = true
  | .non, _ => rfl
  | .bl _, _ => rfl
  | .int i, h => by
    simp only [D.lite] at h
    have h1 := int_text_length_le (a := i) (k := 1900) (by decide) (log_lt' h)
    have e : (PyData.shown (.int i)).length = (toString i).length := by
      show (Str.ofString (toString i)).length = _
      exact PySem.ofString_length _
    simp only [D.py, PyData.leavesShort, decide_eq_true_eq]
    omega
  | .str _, h => by simp only [D.lite] at h; simp only [D.py, PyData.leavesShort]; exact h.2.2
  | .tup xs, h => by have := lite_shortL (ds := xs) (by simpa only [D.lite] using h); simpa only [D.py, PyData.leavesShort] using this
  | .lst xs, h => by have := lite_shortL (ds := xs) (by simpa only [D.lite] using h); simpa only [D.py, PyData.leavesShort] using this
  | .obj _ _ _, h => by simp only [D.lite] at h
  | .ref _, h => by simp only [D.lite] at h
  | .scr _, h => by simp only [D.lite] at h
  | .dct _ _, h => by simp only [D.lite] at h
theorem lite_shortL : ∀ {ds : List D}, D.liteL ds → PyData.leavesShortAll 2000 (D.pyL ds) = true
  | [], _ => rfl
  | x :: r, h => by
    simp only [D.liteL] at h
    simp only [D.pyL, PyData.leavesShortAll, lite_short h.1, lite_shortL h.2, Bool.and_self]
end
/-- data with small numbers has a text -/
theorem lite_shOk {d : D} (h : d.lite) (hb : d.py.bulk ≤ 4000) (hd : d.py.depth ≤ 64) : d.shOk := by
  refine ⟨⟨lite_isPy h, ?_⟩, lite_show h, ?_⟩
  · unfold SeqAt.shaped
    simp only [lite_lay h, Bool.true_and, decide_eq_true_eq]
    exact hd
  · have h1 := PyData.shown_le_bulk 2000 (by decide) d.py (lite_short h)
    have h2 : (2000 + 2) * d.py.bulk ≤ 2002 * 4000 := Nat.mul_le_mul_left _ hb
    rw [sizeLine_eq]
    omega
set_option exponentiation.threshold 3000 in
theorem Sz.lite {n : Nat} {i : Int} (h : Sz n i) (hn : n ≤ 1900) : (D.int i).lite := by
  simp only [D.lite]
  exact h.mono hn
end L2.G

namespace L2.G
open PySem PySem.Spec PyProof.Rows
/-! == of data, piece by piece -/
def eqDL (xs ys : List D) : Bool := PyData.eqvAll (D.pyL xs) (D.pyL ys)
section
variable {i j : Int} {b c : Bool} {s u : Str} {xs ys : List D} {d e : D}
theorem eqD_int : eqD (.int i) (.int j) = decide (i = j) := by unfold eqD; simp only [D.py, PyData.eqv]; by_cases h : i = j <;> simp [h]
theorem eqD_str : eqD (.str s) (.str u) = decide (s = u) := by unfold eqD; simp only [D.py, PyData.eqv]; by_cases h : s = u <;> simp [h]
theorem eqD_bl : eqD (.bl b) (.bl c) = decide (b = c) := by unfold eqD; simp only [D.py, PyData.eqv]; cases b <;> cases c <;> rfl
theorem eqD_nn : eqD .non .non = true := by unfold eqD; simp only [D.py, PyData.eqv]
theorem eqD_ni : eqD .non (.int i) = false := by unfold eqD; simp only [D.py, PyData.eqv]
theorem eqD_in : eqD (.int i) .non = false := by unfold eqD; simp only [D.py, PyData.eqv]
theorem eqD_nt : eqD .non (.tup xs) = false := by unfold eqD; simp only [D.py, PyData.eqv]
theorem eqD_tn : eqD (.tup xs) .non = false := by unfold eqD; simp only [D.py, PyData.eqv]
theorem eqD_tup : eqD (.tup xs) (.tup ys) = eqDL xs ys := by unfold eqD eqDL; simp only [D.py, PyData.eqv]
theorem eqD_lst : eqD (.lst xs) (.lst ys) = eqDL xs ys := by unfold eqD eqDL; simp only [D.py, PyData.eqv]
theorem eqDL_nil : eqDL [] [] = true := rfl
theorem eqDL_nc : eqDL [] (d :: xs) = false := rfl
theorem eqDL_cn : eqDL (d :: xs) [] = false := rfl
theorem eqDL_cons : eqDL (d :: xs) (e :: ys) = (eqD d e && eqDL xs ys) := rfl
end
end L2.G

namespace L2.G
open PySem PySem.Spec PyProof.Rows
/-- lo, lo - 1, .. : n of them -/
def downL (lo : Int) : Nat → List D
  | 0 => [] | n + 1 => .int lo :: downL (lo - 1) n
def iR3 (fr : dA) : dI := fun ρ T k => fr ρ T fun as T1 => match as with
  | [.val (.int i), .val (.int j), .val (.int c)] => (c = -1 ∧ i - j ≤ 1000000 ∧ -(2 ^ 61) ≤ i ∧ i < 2 ^ 61 ∧ -(2 ^ 61) ≤ j ∧ j < 2 ^ 61) ∧ k (downL i (i - j).toNat) T1 | _ => False
section
variable {X : Cx} {tg : Expr} {fr : dA} {p pos : Pos}
end
/-- the whole root -/
def isq (n : Int) : Int := ((Float64.isqrt n.toNat : Nat) : Int)
theorem fSqrt_isq {i : Int} : fSqrt [.int i] = some (0 ≤ i ∧ i.natAbs < 2 ^ 13000, .int (isq i)) := rfl
end L2.G

namespace L2.G
open PySem PySem.Spec PyProof.Rows
section
variable {X : Cx} {a : Expr} {es : List Expr} {fa : dE} {fr : dA} {pos : Pos}
/-- x, y = a, [..] where y's list is its own -/
def sParO (i j : Nat) (fa : dE) (fr : dA) : dS := fun k ρ T => fa ρ T fun d T1 => fr ρ T1 fun as T2 => match vals? as with | some ds => ds.length ≤ 1000000 ∧ k.nx ((ρ.set i (some (.val d))).set j (some (.own ds))) T2 | none => False
theorem s_parO (i j : Nat) {x y : Str} {px py pt lp : Pos} {kt k2 pt2} (hc : X.calm = true) (hN : X.N.Nodup) (ha : PEd X a fa) (hr : PAd X es fr)
    (hi : X.N[i]? = some x := by rfl) (hj : X.N[j]? = some y := by rfl) (hij : i ≠ j := by decide) (hx : X.env.scope.names.lookup x = some .local := by rfl) (hy : X.env.scope.names.lookup y = some .local := by rfl)
    (h1 : starEach [a, .List es lp] X.env = (false, eval a X.env) :: starEach [.List es lp] X.env := by rfl) (h2 : starEach [.List es lp] X.env = (false, eval (.List es lp) X.env) :: starEach [] X.env := by rfl)
    (hw : swappedStores [.Tuple [.Name x px, .Name y py] kt pt] (.Tuple [a, .List es lp] k2 pt2) X.env = pure (some [x, y]) := by rfl)
    (hs : swapsWithSole [.Tuple [.Name x px, .Name y py] kt pt] (.Tuple [a, .List es lp] k2 pt2) pos.line X.env = pure false := by rfl) : PSd X (.Assign [.Tuple [.Name x px, .Name y py] kt pt] (.Tuple [a, .List es lp] k2 pt2) pos) (sParO i j fa fr) := by
  refine ps_imp (ps_par hc hN hi hj hij hx hy (pa_cons ha (pa_cons (pe_lst hr) pa_nil h2) h1) hw hs) fun E σ H h => ?_
  obtain ⟨ρ, T, t, F0, H0, F, k, w, h, fe⟩ := h
  refine ⟨ρ, T, t, F, _, w.w, h, fun v H1 F1 d T1 w1 g1 r1 h1 => ?_⟩
  refine ⟨ρ, T1, t, F1, _, w.w.grow g1 w1, h1, fun vs H2 F2 as T2 w2 g2 r2 h2 => ?_⟩
  split at h2
  · rename_i ds e
    have r := r2.vals e
    refine ⟨by rw [← r.len]; exact small_line h2.1, fun p hp => ⟨v, .ref p, rfl, ?_⟩⟩
    exact fe.nx _ _ _ _ _ ((((w.grow g1 w1).put r1).grow g2 w2).own hp r) (g1.sub.trans g2.sub) h2.2
  · exact h2.elim
/-- *e among arguments -/
theorem ArgL.app {K : PySem.W.Frag} {t : Option Addr} {F : Hp} {as : List SV} {ws : List V} (q : ArgL K t F as ws) : ∀ {xs : List D} {vs : List V}, RepL K F xs vs → ArgL K t F (xs.map SV.val ++ as) (vs ++ ws)
  | _, _, .nil => q
  | _, _, .cons r rr => .val r (ArgL.app q rr)
def aStar (fe : dE) (fr : dA) : dA := fun ρ T k => fe ρ T fun d T1 => match d.it? with | some xs => fr ρ T1 fun as T2 => k (xs.map SV.val ++ as) T2 | none => False
end
end L2.G

namespace L2.G
open PySem PySem.Spec PyProof.Rows
/-! enumerate(e) over a list or a tuple -/
section
variable {X : Cx} {e : Expr} {fe : dE} {p pos tpos : Pos} {elts : List Expr} {kk : Nat}
def enD : Int → List D → List D
  | _, [] => [] | i, d :: r => .tup [.int i, d] :: enD (i + 1) r
def iEn (fe : dE) : dI := fun ρ T k => fe ρ T fun d T1 => match d.it? with | some xs => xs.length ≤ 1000000 ∧ k (enD 0 xs) T1 | none => False
end
end L2.G

namespace L2.G
open PySem PySem.Spec PyProof.Rows
/-! in, not in: over lists and tuples -/
section
variable {X : Cx}
end
def fInS (x y : D) : PD := match y with | .lst ys => some (x.eqOk ∧ D.eqOk (.lst ys), .bl (ys.any fun z => eqD z x)) | .tup ys => some (x.eqOk ∧ D.eqOk (.tup ys), .bl (ys.any fun z => eqD z x)) | _ => none
def fNotInS (x y : D) : PD := match y with | .lst ys => some (x.eqOk ∧ D.eqOk (.lst ys), .bl (!ys.any fun z => eqD z x)) | .tup ys => some (x.eqOk ∧ D.eqOk (.tup ys), .bl (!ys.any fun z => eqD z x)) | _ => none
theorem fInS_lst {x : D} {ys : List D} : fInS x (.lst ys) = some (x.eqOk ∧ D.eqOk (.lst ys), .bl (ys.any fun z => eqD z x)) := rfl
theorem fInS_tup {x : D} {ys : List D} : fInS x (.tup ys) = some (x.eqOk ∧ D.eqOk (.tup ys), .bl (ys.any fun z => eqD z x)) := rfl
theorem fNotInS_lst {x : D} {ys : List D} : fNotInS x (.lst ys) = some (x.eqOk ∧ D.eqOk (.lst ys), .bl (!ys.any fun z => eqD z x)) := rfl
theorem fNotInS_tup {x : D} {ys : List D} : fNotInS x (.tup ys) = some (x.eqOk ∧ D.eqOk (.tup ys), .bl (!ys.any fun z => eqD z x)) := rfl
section
variable {X : Cx} {a b e : Expr} {fa fb fe : dE} {fr : dA} {p pos : Pos} {n : Nat} {es : List Expr} {tg : Expr}
end

/-! own lists read for a while -/
mutual
def D.noL : D → Prop
  | .non => True | .bl _ => True | .int _ => True | .str _ => True | .tup xs => D.noLL xs | .lst _ => False | .obj _ _ _ => False | .ref _ => True | .scr _ => False | .dct _ _ => False
def D.noLL : List D → Prop
  | [] => True | x :: r => x.noL ∧ D.noLL r
end
def cutH (F : Hp) (l : Addr) : Hp := fun b => if b = l then none else F b
theorem cut_ne {F : Hp} {l b : Addr} (h : b ≠ l) : cutH F l b = F b := if_neg h
theorem cut_self {F : Hp} {l : Addr} : cutH F l l = none := if_pos rfl
theorem cut_t {K : PySem.W.Frag} {F : Hp} {l a : Addr} {lv xs : List V} (hl : F l = some (.lst lv)) (h : SqT K F a xs) : SqT K (cutH F l) a xs := by
  rcases h with (h | ⟨o, h⟩) | h
  · left; left
    rw [cut_ne (fun z => by rw [z, hl] at h; cases h)]; exact h
  · left; right
    exact ⟨o, by rw [cut_ne (fun z => by rw [z, hl] at h; cases h)]; exact h⟩
  · right; exact h
mutual
theorem noL_drop {K : PySem.W.Frag} {F : Hp} {l : Addr} {lv : List V} (hl : F l = some (.lst lv)) : ∀ {d : D} {v : V}, Rep K F d v → d.noL → Rep K (cutH F l) d v
  | _, _, .non, _ => .non
  | _, _, .bl b, _ => .bl b
  | _, _, .int i, _ => .int i
  | _, _, .str x, _ => .str x
  | _, _, .tup h q, n => .tup (cut_t hl h) (noLL_drop hl q (by simpa only [D.noL] using n))
  | _, _, .lst _ _, n => by simp only [D.noL] at n
  | _, _, .obj _ _ _, n => by simp only [D.noL] at n
  | _, _, .ref a h, _ => .ref a h
  | _, _, .scr _ _, n => by simp only [D.noL] at n
  | _, _, .dct _ _ _, n => by simp only [D.noL] at n
theorem noLL_drop {K : PySem.W.Frag} {F : Hp} {l : Addr} {lv : List V} (hl : F l = some (.lst lv)) : ∀ {ds : List D} {vs : List V}, RepL K F ds vs → D.noLL ds → RepL K (cutH F l) ds vs
  | _, _, .nil, _ => .nil
  | _, _, .cons h q, n => .cons (noL_drop hl h (by simp only [D.noLL] at n; exact n.1)) (noLL_drop hl q (by simp only [D.noLL] at n; exact n.2))
end
theorem Wd.frz {K : PySem.W.Frag} {ρ : En} {T : Tk} {t : Option Addr} {σ : L2.St} {F H : Hp} (w : Wd K ρ T t σ F H) {i : Nat} {xs : List D} (e : ρ[i]? = some (some (.own xs))) :
    ∃ l vs, F l = none ∧ Wd K (ρ.set i (some (.val (.lst xs)))) T t σ (upd F l (.lst vs)) H := by
  obtain ⟨v, hv, l, vs, rfl, hF, hH, r, nt⟩ := w.slot i _ e
  have sm : Same F (upd F l (.lst vs)) := same_upd hF
  have sub : Same (upd F l (.lst vs)) H := fun b u q => by
    by_cases hb : b = l
    · subst hb; rw [upd_same] at q; cases q; exact hH
    · rw [upd_ne hb] at q; exact w.wt.sub b u q
  have wt : Wt K T t (upd F l (.lst vs)) H := ⟨sub, fun a ea => by
    obtain ⟨n, us, hu, ru⟩ := w.wt.tank a ea
    have ne : a ≠ l := fun z => nt (by rw [ea, z])
    exact ⟨by rw [upd_ne ne]; exact n, us, hu, ru.mono sm⟩, w.wt.tabs.frz hH⟩
  refine ⟨l, vs, hF, wt, by simpa using w.len, fun j s ej => ?_, fun j j' ys zs m e1 e2 e3 e4 => ?_⟩
  · rcases getSet ej with ⟨rfl, _, e'⟩ | ⟨ne, e'⟩
    · cases e'
      exact ⟨.ref l, hv, .lst upd_same (r.mono sm)⟩
    · obtain ⟨u, h1, h2⟩ := w.slot j s e'
      refine ⟨u, h1, ?_⟩
      cases s with
      | val d => exact Rep.mono sm h2
      | tank => exact h2
      | exc _ _ => exact ⟨h2.1, fun dd fl x q => let ⟨n, u, f1, r1⟩ := h2.2 dd fl x q; ⟨n, u, f1, r1.mono sm⟩⟩
      | fn _ _ _ => exact h2
      | ptup _ => obtain ⟨a, o, us, e, hf, c1, c2, r⟩ := h2; exact ⟨a, o, us, e, sm _ _ hf, c1, c2, r.mono sm⟩
      | own ys =>
        obtain ⟨m, us, rfl, f1, f2, f3, f4⟩ := h2
        have nm : m ≠ l := fun z => ne (w.apart i j xs ys l e e' hv (z ▸ h1))
        exact ⟨m, us, rfl, by rw [upd_ne nm]; exact f1, f2, f3.mono sm, f4⟩
  · rcases getSet e1 with ⟨_, _, z⟩ | ⟨n1, e1⟩
    · cases z
    · rcases getSet e2 with ⟨_, _, z⟩ | ⟨n2, e2⟩
      · cases z
      · exact w.apart j j' ys zs m e1 e2 e3 e4
theorem wt_cut {K : PySem.W.Frag} {T : Tk} {t : Option Addr} {F H : Hp} {l : Addr} {lv : List V} (hl : F l = some (.lst lv)) (w : Wt K T t F H) (n : D.noLL T) : Wt K T t (cutH F l) H :=
  ⟨fun b u q => by
    by_cases hb : b = l
    · rw [hb, cut_self] at q; cases q
    · rw [cut_ne hb] at q; exact w.sub b u q, fun a ea => by
    obtain ⟨n1, us, hu, ru⟩ := w.tank a ea
    refine ⟨?_, us, hu, noLL_drop hl ru n⟩
    by_cases hb : a = l
    · rw [hb, cut_self]
    · rw [cut_ne hb]; exact n1, w.tabs.ext (fun p _ e => by
    by_cases hb : p.1 = l
    · rw [hb, cut_self]
    · rw [cut_ne hb]; exact e) (fun _ _ q _ => q) (fun b o q => by
    by_cases hb : b = l
    · rw [hb, cut_self] at q; cases q
    · rw [cut_ne hb] at q; exact w.tabs.no b o q) fun _ _ q => q⟩
theorem grow_cut {t : Option Addr} {F H F1 H1 : Hp} {l : Addr} {lv : List V} (hF : F l = none) (g : Grow t (upd F l (.lst lv)) H F1 H1) : Grow t F H (cutH F1 l) H1 :=
  ⟨fun b u q => by
    have ne : b ≠ l := fun z => by rw [z, hF] at q; cases q
    rw [cut_ne ne]
    exact g.sub b u (by rw [upd_ne ne]; exact q), g.keepT, fun a o h n => by
    by_cases hb : a = l
    · rw [hb, cut_self]
    · rw [cut_ne hb]; exact g.new a o h (by rw [upd_ne hb]; exact n), g.there⟩
def dView (i : Nat) (fe : dE) : dE := fun ρ T k => match ρ[i]? with | some (some (.own xs)) => fe (ρ.set i (some (.val (.lst xs)))) T fun d T1 => d.noL ∧ D.noLL T1 ∧ k d T1 | _ => fe ρ T k
def dViewT (i : Nat) (tc : dT) : dT := fun ρ T k => match ρ[i]? with | some (some (.own xs)) => tc (ρ.set i (some (.val (.lst xs)))) T fun d T1 => D.noLL T1 ∧ k d T1 | _ => tc ρ T k
section
variable {X : Cx} {e : Expr} {es : List Expr} {fe : dE} {fr : dA} {p pos : Pos} {st : Stmt} {f : dS}
theorem d_view (i : Nat) (he : PEd X e fe) : PEd X e (dView i fe) := by
  refine pe_imp he fun σ H Q h => ?_
  obtain ⟨ρ, T, t, F, k, w, h, f⟩ := h
  unfold dView at h
  split at h
  · rename_i xs e0
    obtain ⟨l, vs, hF, w'⟩ := w.frz e0
    refine ⟨_, T, t, _, _, w', h, fun v H1 F1 d T1 w1 g1 r1 h1 => ?_⟩
    obtain ⟨n1, n2, h1⟩ := h1
    have hl : F1 l = some (.lst vs) := g1.sub _ _ upd_same
    exact f v H1 (cutH F1 l) d T1 (wt_cut hl w1 n2) (grow_cut hF g1) (noL_drop hl r1 n1) h1
  · exact ⟨ρ, T, t, F, k, w, h, f⟩
theorem t_view (i : Nat) {tc : dT} (he : PTd X e tc) : PTd X e (dViewT i tc) := by
  refine pt_imp he fun σ H Q h => ?_
  obtain ⟨ρ, T, t, F, k, w, h, f⟩ := h
  unfold dViewT at h
  split at h
  · rename_i xs e0
    obtain ⟨l, vs, hF, w'⟩ := w.frz e0
    refine ⟨_, T, t, _, _, w', h, fun b H1 F1 T1 w1 g1 h1 => ?_⟩
    obtain ⟨n2, h1⟩ := h1
    have hl : F1 l = some (.lst vs) := g1.sub _ _ upd_same
    exact f b H1 (cutH F1 l) T1 (wt_cut hl w1 n2) (grow_cut hF g1) h1
  · exact ⟨ρ, T, t, F, k, w, h, f⟩
/-- it will not be changed any more, if it is own -/
def sFrq (i : Nat) (f : dS) : dS := fun k ρ T => match ρ[i]? with | some (some (.own xs)) => f k (ρ.set i (some (.val (.lst xs)))) T | _ => f k ρ T
theorem s_frq (i : Nat) (h : PSd X st f) : PSd X st (sFrq i f) := by
  refine ps_imp h fun E σ H h => ?_
  obtain ⟨ρ, T, t, F0, H0, F, k, w, h, fe⟩ := h
  unfold sFrq at h
  split at h
  · rename_i xs e
    obtain ⟨F', sm, w'⟩ := w.frz e
    exact ⟨_, T, t, F0, H0, F', k, w', h, fe.to sm⟩
  · exact ⟨ρ, T, t, F0, H0, F, k, w, h, fe⟩
/-- x[e] = .. in an own list -/
def gOs (i : Nat) (fe : dE) : dG := fun d ρ T k => match ρ[i]? with | some (some (.own xs)) => fe ρ T fun j T1 => (match j with | .int j => (match ixN xs.length j with | some m => k (ρ.set i (some (.own (xs.set m d)))) T1 | none => False) | _ => False) | _ => False
/-! a def that hands back a list of its own -/
def OkN (P : Program) (w : World) (K : PySem.W.Frag) (mg : Str → Option Value) (base : Heap) (n : Nat) (x : Str) (ps : List Str) (sem : Sem) : Prop :=
  ∃ f fd, mg x = some (.ref f) ∧ PySem.W.keepIn K (.ref f) = true ∧ Binds K fd ps [] ∧ (∀ (s : Shared) (ws : List Value), K.In s.heap → ws.length = ps.length → BindsTo s fd ⟨[], ps.zip ws⟩ (ps.zip ws)) ∧ GFn P w K mg base CX0 n f fd ps (spO K ps.length sem) ∧ ∃ oc od osl, K.lookup f = some ⟨oc, od, .func fd, osl⟩
theorem fin_own {K : PySem.W.Frag} {t : Option Addr} {F H : Hp} {T : Tk} {k : KD} {Q : VK} (w : Wt K T t F H) (f : Fin K t F H k Q) : FinO K t F H k Q := by
  intro l lv H' F' xs T' w' g' hl hF' hH' r' q
  have nt : ∀ a, t = some a → a ≠ l := fun a ea z => by
    obtain ⟨_, us, hu, _⟩ := w.tank a ea
    rw [z, hl] at hu
    cases hu
  have sm : Same F' (upd F' l (.lst lv)) := same_upd hF'
  refine f (.ref l) H' (upd F' l (.lst lv)) (.lst xs) T' ⟨fun b u e => ?_, fun a ea => ?_, w'.tabs.frz hH'⟩ ⟨g'.sub.trans sm, g'.keepT, fun a o h n => ?_, g'.there⟩ (.lst upd_same (r'.mono sm)) q
  · by_cases hb : b = l
    · subst hb; rw [upd_same] at e; cases e; exact hH'
    · rw [upd_ne hb] at e; exact w'.sub b u e
  · obtain ⟨n1, us, hu, ru⟩ := w'.tank a ea
    exact ⟨by rw [upd_ne (nt a ea)]; exact n1, us, hu, ru.mono sm⟩
  · have ne : a ≠ l := fun z => by rw [z, hl] at h; cases h
    rw [upd_ne ne]
    exact g'.new a o h n
theorem OkN.ok {P : Program} {w : World} {K : PySem.W.Frag} {mg : Str → Option Value} {base : Heap} {n : Nat} {x : Str} {ps : List Str} {sem : Sem} (h : OkN P w K mg base n x ps sem) : Ok P w K mg base n x ps sem :=
  let ⟨f, fd, h1, h2, h3, h4, h5, h6⟩ := h
  ⟨f, fd, h1, h2, h3, h4, h5.imp (fun vs H Q E ⟨q1, F, t, T, as, k, a, b, c, d⟩ => ⟨q1, F, t, T, as, k, a, b, c, fin_own b d⟩), h6⟩
theorem OkN.mono {P : Program} {w : World} {K : PySem.W.Frag} {mg : Str → Option Value} {base : Heap} {m n : Nat} {x : Str} {ps : List Str} {sem : Sem} (h : OkN P w K mg base m x ps sem) (l : m ≤ n) : OkN P w K mg base n x ps sem :=
  let ⟨f, fd, h1, h2, h3, h4, h5, h6⟩ := h; ⟨f, fd, h1, h2, h3, h4, h5.mono l, h6⟩
variable {y : Str} {n m : Nat} {ps qs : List Str} {so : Sem} {q pos2 : Pos} {a b : Expr} {fa fb : dE}
/-- x = f(..), f's list x's own -/
def sOwnC (i m : Nat) (so : Sem) (fr : dA) : dS := fun k ρ T => fr ρ T fun as T1 => as.length = m ∧ so as T1 fun d T2 => match d with | .lst xs => k.nx (ρ.set i (some (.own xs))) T2 | _ => False
/-- x, y = a, f(..) with y's list its own -/
def sParC (i j m : Nat) (so : Sem) (fa : dE) (fr : dA) : dS := fun k ρ T => fa ρ T fun d T1 => fr ρ T1 fun as T2 => as.length = m ∧ so as T2 fun d2 T3 => match d2 with | .lst xs => k.nx ((ρ.set i (some (.val d))).set j (some (.own xs))) T3 | _ => False
/-- x, y, z = a, b, f(..) with z's list its own -/
def sPar3C (i j l m : Nat) (so : Sem) (fa fb : dE) (fr : dA) : dS := fun k ρ T => fa ρ T fun d T1 => fb ρ T1 fun d' T1 => fr ρ T1 fun as T2 => as.length = m ∧ so as T2 fun d2 T3 => match d2 with | .lst xs => k.nx (((ρ.set i (some (.val d))).set j (some (.val d'))).set l (some (.own xs))) T3 | _ => False
end
theorem noL_int {i : Int} : (D.int i).noL = True := by simp only [D.noL]
theorem noL_bl {i : Bool} : (D.bl i).noL = True := by simp only [D.noL]
theorem noL_str {i : Str} : (D.str i).noL = True := by simp only [D.noL]
theorem noL_non : D.non.noL = True := by simp only [D.noL]
theorem noL_tup {xs : List D} : (D.tup xs).noL = D.noLL xs := by simp only [D.noL]
theorem noLL_nil : D.noLL [] = True := by simp only [D.noLL]
theorem noLL_cons {x : D} {xs : List D} : D.noLL (x :: xs) = (x.noL ∧ D.noLL xs) := by simp only [D.noLL]
/-! unpacking of a tuple or a list -/
def gTL (n : Nat) (gs : dGs) : dG := fun d ρ T k => match d.it? with | some ds => ds.length = n ∧ gs ds ρ T k | none => False
theorem g_unp {X : Cx} {pos : Pos} {tgs : List Expr} {j : Nat} {gs : dGs} {n : Nat} (hc : X.calm = true) (h : PGs X tgs (tDGs X.K gs)) (hn : (assignEach tgs X.env).length = n := by rfl) (hst : (assignEach tgs X.env).findIdx? (·.1) = none := by rfl) : PGd X (.Tuple tgs j pos) (gTL n gs) := by
  have key : PG X (.Tuple tgs j pos) (fun v σ H Q => gTup X.K n (tDGs X.K gs) v σ H Q ∨ gUnl X.K n (tDGs X.K gs) v σ H Q) := ⟨fun pins s σ H v u Q I r q => q.elim (fun q => (pg_tup hc h hn hst).run pins s σ H v u Q I r q) (fun q => (pg_unl hc h hn hst).run pins s σ H v u Q I r q)⟩
  refine pg_imp key fun v σ H Q h => ?_
  obtain ⟨ρ, T, t, F0, H0, F, d, k, w, r, h, f⟩ := h
  cases d <;> first | exact h.elim | skip
  · obtain ⟨a, vs, rfl, h1, h2⟩ := rep_tup r
    exact .inl ⟨a, vs, rfl, same_t w.w.wt.sub h1, by rw [← h2.len]; exact h.1, ρ, T, t, F0, H0, F, _, k, w, h2, h.2, f⟩
  · obtain ⟨a, vs, rfl, h1, h2⟩ := rep_lst r
    exact .inr ⟨a, vs, rfl, .of (w.w.wt.sub _ _ h1), by rw [← h2.len]; exact h.1, ρ, T, t, F0, H0, F, _, k, w, h2, h.2, f⟩
end L2.G

namespace L2.G
open PySem PySem.Spec PyProof.Rows
/-! zip of two lists or of two tuples -/
theorem src_zipT {K : PySem.W.Frag} {t : Option Addr} {F1 : Hp} {a b : Addr} {xs ys : List D} {vs ws : List V} (ha : SqT K F1 a vs) (hb : SqT K F1 b ws) (r : RepL K F1 xs vs) (q : RepL K F1 ys ws) : Src K t (RZ.ItzT K a b) F1 (zipD xs ys) where
  go := fun i F H s1 s2 hi => by
    simp only [zipD, List.length_zipWith] at hi
    have h1 : i < vs.length := by rw [← r.len]; omega
    have h2 : i < ws.length := by rw [← q.len]; omega
    exact ⟨vs, ws, vs[i], ws[i], same_t (s1.trans s2) ha, same_t (s1.trans s2) hb, by simp [h1], by simp [h2]⟩
  yl := fun i T F H x H' s1 w hi y => by
    obtain ⟨tt, u, v, rfl, hn, rfl, y1, y2⟩ := y
    obtain ⟨d1, e1, r1⟩ := r.getV (y1 vs (same_t (s1.trans w.sub) ha))
    obtain ⟨d2, e2, r2⟩ := q.getV (y2 ws (same_t (s1.trans w.sub) hb))
    have sm := same_upd (o := .tup [u, v]) (w.sub.free hn)
    exact ⟨upd F tt (.tup [u, v]), .tup [d1, d2], by simp [zipD, List.getElem?_zipWith, e1, e2], .tup (.of upd_same) ((RepL.cons (r1.mono s1) (.cons (r2.mono s1) .nil)).mono sm), grow_new w.sub hn, wt_new w hn⟩
  st := fun F H s1 s2 => ⟨vs, ws, same_t (s1.trans s2) ha, same_t (s1.trans s2) hb, by
    simp only [zipD, List.length_zipWith]
    rw [r.len, q.len]
    omega⟩
def zip2 : List SV → Option (List D × List D)
  | [.val (.lst xs), .val (.lst ys)] => some (xs, ys)
  | [.val (.tup xs), .val (.tup ys)] => some (xs, ys)
  | _ => none
theorem zip2_lst {xs ys : List D} : zip2 [.val (.lst xs), .val (.lst ys)] = some (xs, ys) := rfl
theorem zip2_tup {xs ys : List D} : zip2 [.val (.tup xs), .val (.tup ys)] = some (xs, ys) := rfl
theorem zipD_nil {ys : List D} : zipD [] ys = [] := rfl
theorem zipD_cons {x y : D} {xs ys : List D} : zipD (x :: xs) (y :: ys) = .tup [x, y] :: zipD xs ys := rfl
def iZA (fr : dA) : dI := fun ρ T k => fr ρ T fun as T1 => match zip2 as with | some p => (zipD p.1 p.2).length ≤ 1000000 ∧ k (zipD p.1 p.2) T1 | none => False
theorem i_zipA {X : Cx} {e e2 : Expr} {fr : dA} {p pos : Pos} {elts : List Expr} {kk : Nat} {tpos : Pos} (hm : X.mg "zip" = none) (ha : PAd X [e, e2] fr) (hg : Gl X "zip" := by rfl) (hs : starEach [e, e2] X.env = (false, eval e X.env) :: starEach [e2] X.env := by rfl) (hp : (backTo pos (starEach [e2] X.env)).any (·.1) = false := by rfl) :
    PId X (.Tuple elts kk tpos) (.Call (.Name "zip" p) [e, e2] [] pos) (iZA fr) := by
  refine pi_imp (RZ.pi_zipA hg hm ha hs hp) fun σ H R h => ?_
  obtain ⟨ρ, T, t, F, k, w, h, f⟩ := h
  refine ⟨ρ, T, t, F, _, w, h, fun vs H1 F1 as T1 w1 g1 r1 h1 => ?_⟩
  cases ez : zip2 as with
  | none => rw [ez] at h1; exact h1.elim
  | some p =>
    rw [ez] at h1
    unfold zip2 at ez
    split at ez
    · cases ez
      cases r1 with
      | val r1 rr =>
        cases rr with
        | val r2 rr =>
          cases rr
          obtain ⟨a, us, rfl, ha, qa⟩ := rep_lst r1
          obtain ⟨b, ws, rfl, hb, qb⟩ := rep_lst r2
          exact ⟨a, b, us, ws, rfl, .inl ⟨.of (w1.sub _ _ ha), .of (w1.sub _ _ hb), f _ _ _ _ _ w1 g1 (src_zip ha hb qa qb) h1.1 h1.2⟩⟩
    · cases ez
      cases r1 with
      | val r1 rr =>
        cases rr with
        | val r2 rr =>
          cases rr
          obtain ⟨a, us, rfl, ha, qa⟩ := rep_tup r1
          obtain ⟨b, ws, rfl, hb, qb⟩ := rep_tup r2
          exact ⟨a, b, us, ws, rfl, .inr ⟨same_t w1.sub ha, same_t w1.sub hb, f _ _ _ _ _ w1 g1 (src_zipT ha hb qa qb) h1.1 h1.2⟩⟩
    · cases ez
end L2.G

namespace L2.G
open PySem PySem.Spec PyProof.Rows
/-! walking at the head: what stands behind is left as it is until the head is told -/
/-- an argument whose type names what is to be left as it is -/
structure Fz {α : Type} (a : α) : Type where
def callS (s : Sem) (as : List SV) (T : Tk) (k : KD) (fz : Fz k := ⟨⟩) : Prop := s as T k
theorem callS_eq {s : Sem} {as : List SV} {T : Tk} {k : KD} : callS s as T k = s as T k := propext Iff.rfl
def iteB (c : Bool) (p q : Prop) (fz : Fz (p, q) := ⟨⟩) : Prop := if c = true then p else q
theorem iteB_t {p q : Prop} : iteB true p q = p := propext Iff.rfl
theorem iteB_f {p q : Prop} : iteB false p q = q := propext Iff.rfl
theorem iteB_of {c : Bool} {p q : Prop} (h1 : c = true → p) (h2 : c = false → q) : iteB c p q := by cases c; exact h2 rfl; exact h1 rfl
theorem iteB_p {c : Bool} {p q : Prop} (h : c = true) (h1 : p) : iteB c p q := by rw [h]; exact h1
theorem iteB_n {c : Bool} {p q : Prop} (h : c = false) (h1 : q) : iteB c p q := by rw [h]; exact h1
theorem iteB_not {c : Bool} {p q : Prop} : iteB (!c) p q = iteB c q p := by cases c <;> rfl
theorem iteB_tt {p : Prop} {c : Bool} : iteB c p p = p := by cases c <;> rfl
def setE (ρ : En) (F : En → Prop) (fz : Fz F := ⟨⟩) : Prop := F ρ
theorem setE_go {ρ : En} {F : En → Prop} : setE ρ F = F ρ := propext Iff.rfl
def pdK (r : PD) (k : D → Prop) (fz : Fz k := ⟨⟩) : Prop := match r with | some p => p.1 ∧ k p.2 | none => False
theorem pdK_t {d : D} {k : D → Prop} : pdK (some (True, d)) k = k d := propext (and_iff_right trivial)
theorem pdK_c {P : Prop} {d : D} {k : D → Prop} : pdK (some (P, d)) k = (P ∧ k d) := propext Iff.rfl
theorem oF_pd {f : D → D → PD} {x y : D} {k : D → Prop} : oF f x y k = pdK (f x y) k := propext Iff.rfl
def varK (s : Option (Option SV)) (T : Tk) (k : KD) (fz : Fz k := ⟨⟩) : Prop := match s with | some (some (.val d)) => k d T | some (some (.ptup ds)) => k (.tup ds) T | _ => False
theorem varK_pt {ds : List D} {T : Tk} {k : KD} : varK (some (some (.ptup ds))) T k = k (.tup ds) T := propext Iff.rfl
theorem varK_go {d : D} {T : Tk} {k : KD} : varK (some (some (.val d))) T k = k d T := propext Iff.rfl
section
variable {ρ : En} {T S : Tk} {k : KD} {d e : D} {o : Op2} {fa fb fe : dE} {ta tb : dT} {fr : dA} {i j l n m : Nat} {as : List SV} {xs ys : List D} {K : dEnds} {f g : dS} {tg : dG} {fi : dI}
theorem h_var : dVar i ρ T k = varK ρ[i]? T k := propext Iff.rfl
theorem h_c : dC d ρ T k = k d T := propext Iff.rfl
theorem h_op : dOp o fa fb ρ T k = fa ρ T fun x T1 => fb ρ T1 fun y T2 => o x y fun d => k d T2 := propext Iff.rfl
/-- keeps a lambda from being taken for its function -/
def wr (p : Prop) : Prop := p
def negK (x : D) (T : Tk) (k : KD) (fz : Fz k := ⟨⟩) : Prop := match x with | .int i => k (.int (-i)) T | _ => False
theorem negK_go {i : Int} : negK (.int i) T k = k (.int (-i)) T := propext Iff.rfl
theorem h_neg : dNeg fa ρ T k = fa ρ T fun x T1 => negK x T1 k := propext Iff.rfl
def bolK (b : Bool) (T : Tk) (k : Bool → Tk → Prop) (fz : Fz k := ⟨⟩) : Prop := k b T
theorem bolK_go {b : Bool} {k : Bool → Tk → Prop} : bolK b T k = k b T := propext Iff.rfl
theorem h_isN : dIsN fa ρ T k = fa ρ T fun x T1 => bolK x.isNon T1 fun b T => k (.bl b) T := propext Iff.rfl
theorem h_notN : dNotN fa ρ T k = fa ρ T fun x T1 => bolK (!x.isNon) T1 fun b T => k (.bl b) T := propext Iff.rfl
def tstK (x : D) (T : Tk) (k : Bool → Tk → Prop) (fz : Fz k := ⟨⟩) : Prop := match x with | .bl c => k c T | _ => False
theorem tstK_go {b : Bool} {k : Bool → Tk → Prop} : tstK (.bl b) T k = k b T := propext Iff.rfl
theorem h_tst {k : Bool → Tk → Prop} : dTst fa ρ T k = fa ρ T fun x T1 => tstK x T1 k := propext Iff.rfl
def andK (c : Bool) (T : Tk) (F : (Bool → Tk → Prop) → Prop) (k : Bool → Tk → Prop) (fz : Fz k := ⟨⟩) : Prop := if c = true then F k else k false T
theorem andK_t {F : (Bool → Tk → Prop) → Prop} {k : Bool → Tk → Prop} : andK true T (fun k' => wr (F k')) k = F k := propext Iff.rfl
theorem andK_f {F : (Bool → Tk → Prop) → Prop} {k : Bool → Tk → Prop} : andK false T F k = k false T := propext Iff.rfl
theorem andK_p {c c2 : Bool} {k : Bool → Tk → Prop} : andK c T (fun k' => wr (k' c2 T)) k = k (c && c2) T := by cases c <;> rfl
theorem andK_q {c c2 : Bool} {P : Prop} {k : Bool → Tk → Prop} : andK c T (fun k' => wr (P ∧ k' c2 T)) k = ((c = true → P) ∧ k (c && c2) T) := by cases c <;> simp [andK, wr]
def orK (c : Bool) (T : Tk) (F : (Bool → Tk → Prop) → Prop) (k : Bool → Tk → Prop) (fz : Fz k := ⟨⟩) : Prop := if c = true then k true T else F k
theorem orK_t {F : (Bool → Tk → Prop) → Prop} {k : Bool → Tk → Prop} : orK true T F k = k true T := propext Iff.rfl
theorem orK_f {F : (Bool → Tk → Prop) → Prop} {k : Bool → Tk → Prop} : orK false T (fun k' => wr (F k')) k = F k := propext Iff.rfl
theorem orK_p {c c2 : Bool} {k : Bool → Tk → Prop} : orK c T (fun k' => wr (k' c2 T)) k = k (c || c2) T := by cases c <;> rfl
theorem orK_q {c c2 : Bool} {P : Prop} {k : Bool → Tk → Prop} : orK c T (fun k' => wr (P ∧ k' c2 T)) k = ((c = false → P) ∧ k (c || c2) T) := by cases c <;> simp [orK, wr]
theorem orK_i {c : Bool} {F : (Bool → Tk → Prop) → Prop} {k : Bool → Tk → Prop} : orK c T (fun k' => wr (F k')) k = iteB c (k true T) (F k) := propext Iff.rfl
theorem h_and {k : Bool → Tk → Prop} : dAnd ta tb ρ T k = ta ρ T fun c T1 => andK c T1 (fun k' => wr (tb ρ T1 k')) k := propext Iff.rfl
theorem h_or {k : Bool → Tk → Prop} : dOr ta tb ρ T k = ta ρ T fun c T1 => orK c T1 (fun k' => wr (tb ρ T1 k')) k := propext Iff.rfl
theorem h_not {k : Bool → Tk → Prop} : dNot ta ρ T k = ta ρ T fun c T1 => bolK (!c) T1 k := propext Iff.rfl

def andVK (x : D) (T : Tk) (F : KD → Prop) (k : KD) (fz : Fz k := ⟨⟩) : Prop := match x with | .bl c => if c = true then F k else k (.bl false) T | _ => False
theorem andVK_t {F : KD → Prop} : andVK (.bl true) T (fun k' => wr (F k')) k = F k := propext Iff.rfl
theorem andVK_f {F : KD → Prop} : andVK (.bl false) T F k = k (.bl false) T := propext Iff.rfl
theorem andVK_p {c c2 : Bool} : andVK (.bl c) T (fun k' => wr (k' (.bl c2) T)) k = k (.bl (c && c2)) T := by cases c <;> rfl
theorem andVK_q {c c2 : Bool} {P : Prop} : andVK (.bl c) T (fun k' => wr (P ∧ k' (.bl c2) T)) k = ((c = true → P) ∧ k (.bl (c && c2)) T) := by cases c <;> simp [andVK, wr]
theorem andVK_i {c : Bool} {F : KD → Prop} : andVK (.bl c) T (fun k' => wr (F k')) k = iteB c (F k) (k (.bl false) T) := propext Iff.rfl
def orVK (x : D) (T : Tk) (F : KD → Prop) (k : KD) (fz : Fz k := ⟨⟩) : Prop := match x with | .bl c => if c = true then k (.bl true) T else F k | _ => False
theorem orVK_t {F : KD → Prop} : orVK (.bl true) T F k = k (.bl true) T := propext Iff.rfl
theorem orVK_f {F : KD → Prop} : orVK (.bl false) T (fun k' => wr (F k')) k = F k := propext Iff.rfl
theorem orVK_p {c c2 : Bool} : orVK (.bl c) T (fun k' => wr (k' (.bl c2) T)) k = k (.bl (c || c2)) T := by cases c <;> rfl
theorem orVK_q {c c2 : Bool} {P : Prop} : orVK (.bl c) T (fun k' => wr (P ∧ k' (.bl c2) T)) k = ((c = false → P) ∧ k (.bl (c || c2)) T) := by cases c <;> simp [orVK, wr]
theorem h_andV : dAndV fa fb ρ T k = fa ρ T fun x T1 => andVK x T1 (fun k' => wr (fb ρ T1 k')) k := propext Iff.rfl
theorem h_orV : dOrV fa fb ρ T k = fa ρ T fun x T1 => orVK x T1 (fun k' => wr (fb ρ T1 k')) k := propext Iff.rfl
def notVK (x : D) (T : Tk) (k : KD) (fz : Fz k := ⟨⟩) : Prop := match x with | .bl c => k (.bl (!c)) T | _ => False
theorem notVK_go {b : Bool} : notVK (.bl b) T k = bolK (!b) T fun b T => k (.bl b) T := propext Iff.rfl
theorem h_notV : dNotV fa ρ T k = fa ρ T fun x T1 => notVK x T1 k := propext Iff.rfl
theorem h_if : dIf ta fa fb ρ T k = ta ρ T fun c T1 => iteB c (fa ρ T1 k) (fb ρ T1 k) := propext Iff.rfl
/-! arguments -/
theorem h_anil {k : List SV → Tk → Prop} : aNil ρ T k = k [] T := propext Iff.rfl
theorem h_acons {k : List SV → Tk → Prop} : aCons fe fr ρ T k = fe ρ T fun d T1 => fr ρ T1 fun as T2 => k (.val d :: as) T2 := propext Iff.rfl
def tnkK (s : Option (Option SV)) (P : Prop) (fz : Fz P := ⟨⟩) : Prop := (match s with | some (some .tank) => True | _ => False) ∧ P
theorem tnkK_go {P : Prop} : tnkK (some (some .tank)) P = P := propext (and_iff_right trivial)
theorem h_atank {k : List SV → Tk → Prop} : aTank i fr ρ T k = tnkK ρ[i]? (fr ρ T fun as T2 => k (.tank :: as) T2) := propext Iff.rfl
def sqK (o : Option (List D)) (k : List D → Prop) (fz : Fz k := ⟨⟩) : Prop := match o with | some xs => k xs | none => False
theorem sqK_go {k : List D → Prop} : sqK (some xs) k = k xs := propext Iff.rfl
theorem h_astar {k : List SV → Tk → Prop} : aStar fe fr ρ T k = fe ρ T fun d T1 => sqK d.it? fun xs => fr ρ T1 fun as T2 => k (xs.map SV.val ++ as) T2 := propext Iff.rfl
theorem h_tup : dTup fr ρ T k = fr ρ T fun as T1 => sqK (vals? as) fun ds => ds.length ≤ 1000000 ∧ k (.tup ds) T1 := propext Iff.rfl
theorem h_lst : dLst fr ρ T k = fr ρ T fun as T1 => sqK (vals? as) fun ds => ds.length ≤ 1000000 ∧ k (.lst ds) T1 := propext Iff.rfl
theorem vals_val : vals? (.val d :: as) = (vals? as).map (d :: ·) := rfl
theorem vals_nil : vals? [] = some [] := rfl
def callN (n : Nat) (s : Sem) (as : List SV) (T : Tk) (k : KD) (fz : Fz k := ⟨⟩) : Prop := as.length = n ∧ s as T k
theorem callN_go {n : Nat} {s : Sem} : callN n s as T k = (as.length = n ∧ callS s as T k) := propext Iff.rfl
theorem h_call {s : Sem} : dCall n s fr ρ T k = fr ρ T fun as T1 => callN n s as T1 k := propext Iff.rfl
def lstK (d : D) (k : List D → Prop) (fz : Fz k := ⟨⟩) : Prop := match d with | .lst xs => k xs | _ => False
theorem lstK_go {k : List D → Prop} : lstK (.lst xs) k = k xs := propext Iff.rfl
theorem h_callT {s so : Sem} : dCallT n s so fr ρ T k = fr ρ T fun as T1 => callN n so as T1 fun d T2 => lstK d fun xs => callS s [.tank] xs fun r _ => k r T2 := propext Iff.rfl
theorem h_blt {f : List D → PD} : dBlt (oG f) fr ρ T k = fr ρ T fun as T1 => sqK (vals? as) fun ds => pdK (f ds) fun d => k d T1 := propext Iff.rfl
def opK (o : Option D) (k : D → Prop) (fz : Fz k := ⟨⟩) : Prop := match o with | some d => k d | none => False
theorem opK_go {k : D → Prop} : opK (some d) k = k d := propext Iff.rfl
def intK (d : D) (k : Int → Prop) (fz : Fz k := ⟨⟩) : Prop := match d with | .int i => k i | _ => False
theorem intK_go {i : Int} {k : Int → Prop} : intK (.int i) k = k i := propext Iff.rfl
theorem h_psome {k : Option Int → Tk → Prop} : pSome fe ρ T k = fe ρ T fun d T1 => intK d fun i => k (some i) T1 := propext Iff.rfl
theorem h_slq {lo hi : dP} : dSlQ fe lo hi ρ T k = fe ρ T fun x T1 => lo ρ T1 fun l T2 => hi ρ T2 fun h T3 => opK (x.cut? l h) fun d => k d T3 := propext Iff.rfl
def blqK (o : Option Bool) (T : Tk) (k : KD) (fz : Fz k := ⟨⟩) : Prop := match o with | some r => k (.bl r) T | none => False
theorem blqK_go {b : Bool} : blqK (some b) T k = k (.bl b) T := propext Iff.rfl
theorem h_isi {t : Ty} : dIsi t fe ρ T k = fe ρ T fun d T1 => blqK (isTy t d) T1 k := propext Iff.rfl
/-! walks -/
theorem h_iQ {k : List D → Tk → Prop} : iQ fe ρ T k = fe ρ T fun d T1 => sqK d.it? fun xs => xs.length ≤ 1000000 ∧ k xs T1 := propext Iff.rfl
def r1K (as : List SV) (T : Tk) (k : List D → Tk → Prop) (fz : Fz k := ⟨⟩) : Prop := match as with | [.val (.int j)] => (j ≤ 1000000 ∧ -(2 ^ 62) ≤ j) ∧ k (intsL 0 j.toNat) T | _ => False
theorem r1K_go {j : Int} {k : List D → Tk → Prop} : r1K [.val (.int j)] T k = ((j ≤ 1000000 ∧ -(2 ^ 62) ≤ j) ∧ k (intsL 0 j.toNat) T) := propext Iff.rfl
theorem h_iR1 {k : List D → Tk → Prop} : iR1 fr ρ T k = fr ρ T fun as T1 => r1K as T1 k := by
  unfold iR1; congr 1; funext as T1; unfold r1K; split <;> simp only [and_assoc]
def r2K (as : List SV) (T : Tk) (k : List D → Tk → Prop) (fz : Fz k := ⟨⟩) : Prop := match as with | [.val (.int i), .val (.int j)] => (j - i ≤ 1000000 ∧ -(2 ^ 61) ≤ i ∧ i < 2 ^ 61 ∧ -(2 ^ 61) ≤ j ∧ j < 2 ^ 61) ∧ k (intsL i (j - i).toNat) T | _ => False
theorem r2K_go {i j : Int} {k : List D → Tk → Prop} : r2K [.val (.int i), .val (.int j)] T k = ((j - i ≤ 1000000 ∧ -(2 ^ 61) ≤ i ∧ i < 2 ^ 61 ∧ -(2 ^ 61) ≤ j ∧ j < 2 ^ 61) ∧ k (intsL i (j - i).toNat) T) := propext Iff.rfl
theorem h_iR2 {k : List D → Tk → Prop} : iR2 fr ρ T k = fr ρ T fun as T1 => r2K as T1 k := propext Iff.rfl
def r3K (as : List SV) (T : Tk) (k : List D → Tk → Prop) (fz : Fz k := ⟨⟩) : Prop := match as with | [.val (.int i), .val (.int j), .val (.int c)] => (c = -1 ∧ i - j ≤ 1000000 ∧ -(2 ^ 61) ≤ i ∧ i < 2 ^ 61 ∧ -(2 ^ 61) ≤ j ∧ j < 2 ^ 61) ∧ k (downL i (i - j).toNat) T | _ => False
theorem r3K_go {i j c : Int} {k : List D → Tk → Prop} : r3K [.val (.int i), .val (.int j), .val (.int c)] T k = ((c = -1 ∧ i - j ≤ 1000000 ∧ -(2 ^ 61) ≤ i ∧ i < 2 ^ 61 ∧ -(2 ^ 61) ≤ j ∧ j < 2 ^ 61) ∧ k (downL i (i - j).toNat) T) := propext Iff.rfl
theorem h_iR3 {k : List D → Tk → Prop} : iR3 fr ρ T k = fr ρ T fun as T1 => r3K as T1 k := propext Iff.rfl
def zpK (o : Option (List D × List D)) (T : Tk) (k : List D → Tk → Prop) (fz : Fz k := ⟨⟩) : Prop := match o with | some p => (zipD p.1 p.2).length ≤ 1000000 ∧ k (zipD p.1 p.2) T | none => False
theorem zpK_go {k : List D → Tk → Prop} : zpK (some (xs, ys)) T k = ((zipD xs ys).length ≤ 1000000 ∧ k (zipD xs ys) T) := propext Iff.rfl
theorem h_iZA {k : List D → Tk → Prop} : iZA fr ρ T k = fr ρ T fun as T1 => zpK (zip2 as) T1 k := propext Iff.rfl
theorem h_iEn {k : List D → Tk → Prop} : iEn fe ρ T k = fe ρ T fun d T1 => sqK d.it? fun xs => xs.length ≤ 1000000 ∧ k (enD 0 xs) T1 := propext Iff.rfl
/-! statements -/
theorem h_seq : sSeq f g K ρ T = f { K with nx := g K } ρ T := propext Iff.rfl
theorem h_ret : sRet fe K ρ T = fe ρ T K.rt := propext Iff.rfl
theorem h_expr : sExpr fe K ρ T = fe ρ T fun _ T1 => K.nx ρ T1 := propext Iff.rfl
theorem h_sif : sIf ta f g K ρ T = ta ρ T fun c T1 => iteB c (f K ρ T1) (g K ρ T1) := propext Iff.rfl
theorem h_asg : sAsg fe tg K ρ T = fe ρ T fun d T1 => tg d ρ T1 K.nx := propext Iff.rfl
theorem h_gN {k : En → Tk → Prop} : gN i d ρ T k = setE (ρ.set i (some (.val d))) fun ρ => k ρ T := propext Iff.rfl
theorem h_gsnil {k : En → Tk → Prop} : gsNil [] ρ T k = k ρ T := propext (and_iff_right rfl)
theorem h_gscons {gs : dGs} {k : En → Tk → Prop} : gsCons tg gs (d :: xs) ρ T k = tg d ρ T fun ρ' T' => gs xs ρ' T' k := propext Iff.rfl
theorem h_gTL {gs : dGs} {k : En → Tk → Prop} : gTL n gs d ρ T k = sqK d.it? fun ds => ds.length = n ∧ gs ds ρ T k := propext Iff.rfl
theorem h_gT {gs : dGs} {k : En → Tk → Prop} : gT n gs (.tup xs) ρ T k = (xs.length = n ∧ gs xs ρ T k) := propext Iff.rfl
def parK (i j : Nat) (as : List SV) (ρ : En) (T : Tk) (k : En → Tk → Prop) (fz : Fz k := ⟨⟩) : Prop := match as with | [.val d, .val e] => k ((ρ.set i (some (.val d))).set j (some (.val e))) T | _ => False
theorem parK_go {k : En → Tk → Prop} : parK i j [.val d, .val e] ρ T k = setE ((ρ.set i (some (.val d))).set j (some (.val e))) fun ρ => k ρ T := propext Iff.rfl
theorem h_par : sPar i j fr K ρ T = fr ρ T fun as T1 => parK i j as ρ T1 K.nx := propext Iff.rfl
def parK3 (i j l : Nat) (as : List SV) (ρ : En) (T : Tk) (k : En → Tk → Prop) (fz : Fz k := ⟨⟩) : Prop := match as with | [.val d, .val e, .val f] => k (((ρ.set i (some (.val d))).set j (some (.val e))).set l (some (.val f))) T | _ => False
theorem parK3_go {c : D} {k : En → Tk → Prop} : parK3 i j l [.val d, .val e, .val c] ρ T k = setE (((ρ.set i (some (.val d))).set j (some (.val e))).set l (some (.val c))) fun ρ => k ρ T := propext Iff.rfl
theorem h_par3 : sPar3 i j l fr K ρ T = fr ρ T fun as T1 => parK3 i j l as ρ T1 K.nx := propext Iff.rfl
theorem h_parO : sParO i j fa fr K ρ T = fa ρ T fun d T1 => fr ρ T1 fun as T2 => sqK (vals? as) fun ds => ds.length ≤ 1000000 ∧ setE ((ρ.set i (some (.val d))).set j (some (.own ds))) fun ρ => K.nx ρ T2 := propext Iff.rfl
theorem h_parC {so : Sem} : sParC i j m so fa fr K ρ T = fa ρ T fun d T1 => fr ρ T1 fun as T2 => callN m so as T2 fun d2 T3 => lstK d2 fun xs => setE ((ρ.set i (some (.val d))).set j (some (.own xs))) fun ρ => K.nx ρ T3 := propext Iff.rfl
theorem h_par3C {so : Sem} : sPar3C i j l m so fa fb fr K ρ T = fa ρ T fun d T1 => fb ρ T1 fun d' T1 => fr ρ T1 fun as T2 => callN m so as T2 fun d2 T3 => lstK d2 fun xs => setE (((ρ.set i (some (.val d))).set j (some (.val d'))).set l (some (.own xs))) fun ρ => K.nx ρ T3 := propext Iff.rfl
theorem h_own : sOwn i fr K ρ T = fr ρ T fun as T1 => sqK (vals? as) fun ds => ds.length ≤ 1000000 ∧ setE (ρ.set i (some (.own ds))) fun ρ => K.nx ρ T1 := propext Iff.rfl
theorem h_ownC {so : Sem} : sOwnC i m so fr K ρ T = fr ρ T fun as T1 => callN m so as T1 fun d T2 => lstK d fun xs => setE (ρ.set i (some (.own xs))) fun ρ => K.nx ρ T2 := propext Iff.rfl
def ownK (s : Option (Option SV)) (k : List D → Prop) (e : Prop) (fz : Fz (k, e) := ⟨⟩) : Prop := match s with | some (some (.own xs)) => k xs | _ => e
theorem ownK_o {k : List D → Prop} {e : Prop} : ownK (some (some (.own xs))) k e = k xs := propext Iff.rfl
theorem ownK_v {k : List D → Prop} {e : Prop} : ownK (some (some (.val d))) k e = e := propext Iff.rfl
theorem ownK_n {k : List D → Prop} {e : Prop} : ownK (some none) k e = e := propext Iff.rfl
theorem h_frz : sFrz i f K ρ T = ownK ρ[i]? (fun xs => setE (ρ.set i (some (.val (.lst xs)))) fun ρ => f K ρ T) False := propext Iff.rfl
theorem h_frq : sFrq i f K ρ T = ownK ρ[i]? (fun xs => setE (ρ.set i (some (.val (.lst xs)))) fun ρ => f K ρ T) (f K ρ T) := propext Iff.rfl
theorem h_app : sApp i fe K ρ T = ownK ρ[i]? (fun xs => fe ρ T fun d T1 => xs.length < 1000000 ∧ setE (ρ.set i (some (.own (xs ++ [d])))) fun ρ => K.nx ρ T1) False := propext Iff.rfl
theorem h_view : dView i fe ρ T k = ownK ρ[i]? (fun xs => setE (ρ.set i (some (.val (.lst xs)))) fun ρ => fe ρ T fun d T1 => d.noL ∧ D.noLL T1 ∧ k d T1) (fe ρ T k) := propext Iff.rfl
theorem h_viewT {k : Bool → Tk → Prop} : dViewT i ta ρ T k = ownK ρ[i]? (fun xs => setE (ρ.set i (some (.val (.lst xs)))) fun ρ => ta ρ T fun d T1 => D.noLL T1 ∧ k d T1) (ta ρ T k) := propext Iff.rfl
def natK (o : Option Nat) (k : Nat → Prop) (fz : Fz k := ⟨⟩) : Prop := match o with | some m => k m | none => False
theorem natK_go {k : Nat → Prop} : natK (some n) k = k n := propext Iff.rfl
theorem h_gOs {k : En → Tk → Prop} : gOs i fe d ρ T k = ownK ρ[i]? (fun xs => fe ρ T fun j T1 => intK j fun j => natK (ixN xs.length j) fun m => setE (ρ.set i (some (.own (xs.set m d)))) fun ρ => k ρ T1) False := propext Iff.rfl
/-! loops -/
def forK (g : dG) (f : dS) (k : dEnds) (xs : List D) (ρ : En) (T : Tk) (fz : Fz (g, f, k) := ⟨⟩) : Prop := forL g f k xs ρ T
theorem forK_nil : forK tg f K [] ρ T = K.nx ρ T := propext Iff.rfl
theorem forK_cons : forK tg f K (d :: xs) ρ T = tg d ρ T fun ρ1 T1 => f { nx := fun ρ T => forK tg f K xs ρ T, rt := K.rt, bk := K.nx, ct := fun ρ T => forK tg f K xs ρ T } ρ1 T1 := propext Iff.rfl
theorem h_for : sForI fi tg f K ρ T = fi ρ T fun xs T1 => forK tg f K xs ρ T1 := propext Iff.rfl
def lcK (ρ : En) (c : dC1) (tt : dT) (el : dE) (k : List D → Tk → Prop) (xs acc : List D) (T : Tk) (fz : Fz (c, tt, el, k) := ⟨⟩) : Prop := lcD ρ c tt el k xs acc T
def enK (o : Option En) (k : En → Prop) (fz : Fz k := ⟨⟩) : Prop := match o with | some ρ => k ρ | none => False
theorem enK_go {k : En → Prop} : enK (some ρ) k = k ρ := propext Iff.rfl
variable {c : dC1} {el : dE} {kk : List D → Tk → Prop}
theorem lcK_nil : lcK ρ c ta el kk [] xs T = kk xs T := propext Iff.rfl
theorem lcK_cons : lcK ρ c ta el kk (d :: ys) xs T = enK (c d ρ) fun ρ1 => ta ρ1 T fun b T1 => iteB b (el ρ1 T1 fun y T2 => lcK ρ c ta el kk ys (xs ++ [y]) T2) (lcK ρ c ta el kk ys xs T1) := propext Iff.rfl
theorem h_lc {vs : List Nat} : dLc vs fi c ta el ρ T k = fi ρ T fun xs T1 => setE (wipeD ρ vs) fun ρ => lcK ρ c ta el (fun acc T2 => k (.lst acc) T2) xs [] T1 := propext Iff.rfl
theorem h_cN : cN i d ρ = some (ρ.set i (some (.val d))) := rfl
theorem h_cT {is : List Nat} : cT is (.tup xs) ρ = setAll is xs ρ := rfl
theorem h_yes {k : Bool → Tk → Prop} : dYes ρ T k = k true T := propext Iff.rfl
theorem setAll_nil : setAll [] [] ρ = some ρ := rfl
theorem setAll_cons {is : List Nat} : setAll (i :: is) (d :: xs) ρ = setAll is xs (ρ.set i (some (.val d))) := rfl
theorem wipe_nil : wipeD ρ [] = ρ := rfl
theorem wipe_cons {vs : List Nat} : wipeD ρ (i :: vs) = (wipeD ρ vs).set i none := rfl
end
/-! == of data without deep nests -/
mutual
def okN : Nat → D → Prop
  | _, .non => True | _, .bl _ => True | _, .int _ => True | _, .str x => PyData.strOk x = true
  | n, .tup xs => 0 < n ∧ okL (n - 1) xs | n, .lst xs => 0 < n ∧ okL (n - 1) xs | _, .obj _ _ _ => False | _, .ref _ => False | _, .scr _ => False | _, .dct _ _ => False
def okL : Nat → List D → Prop
  | _, [] => True
  | n, x :: r => okN n x ∧ okL n r
end
mutual
theorem okN_ok : ∀ {n : Nat} {d : D}, okN n d → d.isPy = true ∧ d.py.canLay0 = true ∧ d.py.depth ≤ n
  | n, .non, _ => ⟨rfl, rfl, Nat.zero_le _⟩
  | n, .bl _, _ => ⟨rfl, rfl, Nat.zero_le _⟩
  | n, .int _, _ => ⟨rfl, rfl, Nat.zero_le _⟩
  | n, .str x, h => by
    simp only [okN] at h
    exact ⟨rfl, by simp only [D.py, PyData.canLay0]; exact h, by simp only [D.py, PyData.depth]; exact Nat.zero_le _⟩
  | n, .tup xs, h => by
    simp only [okN] at h
    obtain ⟨h1, h2, h3⟩ := okL_ok h.2
    refine ⟨by simpa only [D.isPy] using h1, by simpa only [D.py, PyData.canLay0] using h2, ?_⟩
    simp only [D.py, PyData.depth]
    omega
  | n, .lst xs, h => by
    simp only [okN] at h
    obtain ⟨h1, h2, h3⟩ := okL_ok h.2
    refine ⟨by simpa only [D.isPy] using h1, by simpa only [D.py, PyData.canLay0] using h2, ?_⟩
    simp only [D.py, PyData.depth]
    omega
  | n, .obj _ _ _, h => by simp only [okN] at h
  | n, .ref _, h => by simp only [okN] at h
  | n, .scr _, h => by simp only [okN] at h
  | n, .dct _ _, h => by simp only [okN] at h
theorem okL_ok : ∀ {n : Nat} {xs : List D}, okL n xs → D.isPyL xs = true ∧ PyData.canLayAll0 (D.pyL xs) = true ∧ PyData.depthAll (D.pyL xs) ≤ n
  | n, [], _ => ⟨rfl, rfl, Nat.zero_le _⟩
  | n, x :: r, h => by
    simp only [okL] at h
    obtain ⟨a1, a2, a3⟩ := okN_ok h.1
    obtain ⟨b1, b2, b3⟩ := okL_ok h.2
    refine ⟨by simp only [D.isPyL, a1, b1, Bool.and_self], by simp only [D.pyL, PyData.canLayAll0, a2, b2, Bool.and_self], ?_⟩
    simp only [D.pyL, PyData.depthAll]
    omega
end
theorem okN_eqOk {d : D} (h : okN 60 d) : d.eqOk := by
  obtain ⟨h1, h2, h3⟩ := okN_ok h
  refine ⟨h1, ?_⟩
  unfold SeqAt.shaped
  simp only [h2, Bool.true_and, decide_eq_true_eq]
  omega
theorem okN_t {d : D} (h : okN 60 d) : d.eqOk = True := eq_true (okN_eqOk h)
section
variable {n : Nat} {d : D} {xs : List D} {i : Int} {b : Bool}
theorem okN_non : okN n .non = True := by simp only [okN]
theorem okN_int : okN n (.int i) = True := by simp only [okN]
theorem okN_bl : okN n (.bl b) = True := by simp only [okN]
theorem okN_tup : okN n (.tup xs) = (0 < n ∧ okL (n - 1) xs) := by simp only [okN]
theorem okN_lst : okN n (.lst xs) = (0 < n ∧ okL (n - 1) xs) := by simp only [okN]
theorem okL_nil : okL n [] = True := by simp only [okL]
theorem okL_cons : okL n (d :: xs) = (okN n d ∧ okL n xs) := by simp only [okL]
end
/-! == of unlike kinds -/
section
variable {i j : Int} {b : Bool} {s : Str} {xs ys : List D}
theorem fEq_it : fEq (.int i) (.tup xs) = some ((D.int i).eqOk ∧ (D.tup xs).eqOk, .bl (eqD (.int i) (.tup xs))) := rfl
theorem fEq_ti : fEq (.tup xs) (.int i) = some ((D.tup xs).eqOk ∧ (D.int i).eqOk, .bl (eqD (.tup xs) (.int i))) := rfl
theorem fEq_in : fEq (.int i) .non = some ((D.int i).eqOk ∧ D.non.eqOk, .bl (eqD (.int i) .non)) := rfl
theorem fEq_ni : fEq .non (.int i) = some (D.non.eqOk ∧ (D.int i).eqOk, .bl (eqD .non (.int i))) := rfl
theorem fNe_in : fNe (.int i) .non = some ((D.int i).eqOk ∧ D.non.eqOk, .bl (!eqD (.int i) .non)) := rfl
theorem fNe_ni : fNe .non (.int i) = some (D.non.eqOk ∧ (D.int i).eqOk, .bl (!eqD .non (.int i))) := rfl
end
end L2.G

namespace L2.G
open PySem PySem.Spec PyProof.Rows

/-! is, is not of truth values -/
def bIs (a b : Bool) : Bool := decide (a = b)
theorem bIs_t {a : Bool} : bIs a true = a := by cases a <;> rfl
theorem bIs_f {a : Bool} : bIs a false = !a := by cases a <;> rfl
theorem bIs_s {a : Bool} : bIs a a = true := by cases a <;> rfl
def fIs : D → D → PD | .bl i, .bl j => some (True, .bl (bIs i j)) | _, _ => none
def fIsn : D → D → PD | .bl i, .bl j => some (True, .bl (!bIs i j)) | _, _ => none
theorem fIs_bl {i j : Bool} : fIs (.bl i) (.bl j) = some (True, .bl (bIs i j)) := rfl
theorem fIsn_bl {i j : Bool} : fIsn (.bl i) (.bl j) = some (True, .bl (!bIs i j)) := rfl
def oIsB (g : Bool → Bool → Bool) : Op2 := fun x y k => match x, y with | .bl i, .bl j => k (.bl (g i j)) | _, _ => False
theorem oIsB_ok {K : PySem.W.Frag} : OpS K rIsB (oIsB fun a b => decide (a = b)) := by
  intro t F H T x y v w k Q wt r1 r2 q f
  unfold oIsB at q
  split at q
  · cases r1
    cases r2
    exact ⟨_, _, rfl, rfl, f.val wt (.bl _) q⟩
  · exact q.elim
theorem oIsnB_ok {K : PySem.W.Frag} : OpS K rNotB (oIsB fun a b => !decide (a = b)) := by
  intro t F H T x y v w k Q wt r1 r2 q f
  unfold oIsB at q
  split at q
  · cases r1
    cases r2
    exact ⟨_, _, rfl, rfl, f.val wt (.bl _) q⟩
  · exact q.elim
theorem fIs_ok {x y : D} {k : D → Prop} (h : oF fIs x y k) : oIsB (fun a b => decide (a = b)) x y k := by cases x <;> cases y <;> first | exact h.elim | exact h.2
theorem fIsn_ok {x y : D} {k : D → Prop} (h : oF fIsn x y k) : oIsB (fun a b => !decide (a = b)) x y k := by cases x <;> cases y <;> first | exact h.elim | exact h.2
section
variable {X : Cx} {a b e : Expr} {fa fb fe : dE} {pos : Pos}
theorem d_fis (hm : behindInMarks .Is b = false := by rfl) (ha : PEd X a fa) (hb : PEd X b fb) : PEd X (.Compare a [.Is] [b] pos) (dOp (oF fIs) fa fb) := d_cmp op_isBl (oIsB_ok.imp fun _ _ _ => fIs_ok) ha hb hm
theorem t_fisn (hm : behindInMarks .IsNot b = false := by rfl) (ha : PEd X a fa) (hb : PEd X b fb) : PTd X (.Compare a [.IsNot] [b] pos) (dTst (dOp (oF fIsn) fa fb)) := d_tcmp op_notBl (oIsnB_ok.imp fun _ _ _ => fIsn_ok) ha hb hm
end

/-! xs[::-1] of lists and tuples -/
section
variable {prog : Program} {w : World} {A : Around} {E : Value → Shared → Prop} {s : Shared}
end

section
variable {X : Cx} {e : Expr} {fe : dE}
def D.rev? : D → Option D | .lst xs => some (.lst xs.reverse) | .scr xs => some (.lst xs.reverse) | .tup xs => some (.tup xs.reverse) | _ => none
theorem rev_lst {xs : List D} : D.rev? (.lst xs) = some (.lst xs.reverse) := rfl
theorem rev_scr {xs : List D} : D.rev? (.scr xs) = some (.lst xs.reverse) := rfl
theorem rev_tup {xs : List D} : D.rev? (.tup xs) = some (.tup xs.reverse) := rfl
def dRev (fe : dE) : dE := fun ρ T k => fe ρ T fun x T1 => match x.rev? with | some d => k d T1 | none => False
theorem h_rev {ρ : En} {T : Tk} {k : KD} : dRev fe ρ T k = fe ρ T fun x T1 => opK x.rev? fun d => k d T1 := propext Iff.rfl
end

/-! x = [.. for ..], x a list that this def will change -/
section
variable {X : Cx} {tg : Expr} {pos : Pos}
def sLcO (i : Nat) (vs : List Nat) (fi : dI) (c : dC1) (tt : dT) (el : dE) : dS := fun k ρ T => fi ρ T fun xs T1 => lcD (wipeD ρ vs) c tt el (fun acc T2 => k.nx (ρ.set i (some (.own acc))) T2) xs [] T1
theorem h_lcO {i : Nat} {vs : List Nat} {fi : dI} {c : dC1} {ta : dT} {el : dE} {K : dEnds} {ρ : En} {T : Tk} : sLcO i vs fi c ta el K ρ T = fi ρ T fun xs T1 => setE (wipeD ρ vs) fun ρ' => lcK ρ' c ta el (fun acc T2 => setE (ρ.set i (some (.own acc))) fun ρ => K.nx ρ T2) xs [] T1 := propext Iff.rfl
end

/-! {} and {"x": e}: dicts that are only handed on -/
section
variable {X : Cx} {e : Expr} {fe : dE} {pos p1 : Pos} {j : Nat}
def dDct0 : dE := fun _ T k => k (.dct [] []) T
theorem h_dct0 {ρ : En} {T : Tk} {k : KD} : dDct0 ρ T k = k (.dct [] []) T := propext Iff.rfl
def dDct1 (x : Str) (fe : dE) : dE := fun ρ T k => fe ρ T fun d T1 => k (.dct [.inr x] [d]) T1
theorem h_dct1 {x : Str} {ρ : En} {T : Tk} {k : KD} : dDct1 x fe ρ T k = fe ρ T fun d T1 => k (.dct [.inr x] [d]) T1 := propext Iff.rfl
end
theorem isTy_dct {T : Ty} {ks : List Key} {ds : List D} : isTy T (.dct ks ds) = some false := by cases T <;> rfl
theorem isNon_dct {ks : List Key} {ds : List D} : (D.dct ks ds).isNon = false := rfl
end L2.G

namespace L2.G
open PySem PySem.Spec PyProof.Rows
/-! the greatest of a list of ints -/
def mxL (n : Int) (r : List Int) : Int := r.foldl (fun a b => if b > a then b else a) n
def mxR : Option (List Int) → PD | some (n :: r) => some (True, .int (mxL n r)) | _ => none
def fMaxL : List D → PD | [.lst xs] => mxR (nums? xs) | _ => none
theorem fMaxL_lst {xs : List D} : fMaxL [.lst xs] = mxR (nums? xs) := rfl
theorem mxR_some {n : Int} {r : List Int} : mxR (some (n :: r)) = some (True, .int (mxL n r)) := rfl
section
variable {X : Cx} {a b e : Expr} {fa fb fe : dE} {fr : dA} {p pos : Pos} {n : Nat} {es : List Expr} {tg : Expr}
end
end L2.G

namespace L2.G
open PySem PySem.Spec PyProof.Rows
/-! arguments by name, in another order -/
def pmC {α : Type} (o : Option α) (r : List α) : List α := match o with | some x => x :: r | none => r
def permL {α : Type} : List Nat → List α → List α
  | [], _ => []
  | i :: is, xs => pmC xs[i]? (permL is xs)
theorem argIx {K : PySem.W.Frag} {t : Option Addr} {F : Hp} : ∀ {as : List SV} {vs : List V}, ArgL K t F as vs → ∀ i : Nat, (as[i]? = none ∧ vs[i]? = none) ∨ ∃ a v, as[i]? = some a ∧ vs[i]? = some v ∧ ∀ as' vs', ArgL K t F as' vs' → ArgL K t F (a :: as') (v :: vs')
  | _, _, .nil, i => .inl ⟨by simp, by simp⟩
  | _, _, .val r q, 0 => .inr ⟨_, _, rfl, rfl, fun _ _ h => .val r h⟩
  | _, _, .tank r q, 0 => .inr ⟨_, _, rfl, rfl, fun _ _ h => .tank r h⟩
  | _, _, .val r q, i + 1 => by simpa using argIx q i
  | _, _, .tank r q, i + 1 => by simpa using argIx q i
theorem argP {K : PySem.W.Frag} {t : Option Addr} {F : Hp} {as : List SV} {vs : List V} (h : ArgL K t F as vs) : ∀ is, ArgL K t F (permL is as) (permL is vs)
  | [] => .nil
  | i :: is => by
    have ih := argP h is
    unfold permL
    rcases argIx h i with ⟨e1, e2⟩ | ⟨a, v, e1, e2, q⟩
    · rw [e1, e2]; exact ih
    · rw [e1, e2]; exact q _ _ ih
theorem prIx {α β : Type} {R : α → β → Prop} : ∀ {vs : List α} {us : List β}, Paired R vs us → ∀ i : Nat, (vs[i]? = none ∧ us[i]? = none) ∨ ∃ a v, vs[i]? = some a ∧ us[i]? = some v ∧ R a v
  | _, _, .nil, i => .inl ⟨by simp, by simp⟩
  | _, _, .cons r q, 0 => .inr ⟨_, _, rfl, rfl, r⟩
  | _, _, .cons r q, i + 1 => by simpa using prIx q i
theorem prP {α β : Type} {R : α → β → Prop} {vs : List α} {us : List β} (h : Paired R vs us) : ∀ is, Paired R (permL is vs) (permL is us)
  | [] => .nil
  | i :: is => by
    have ih := prP h is
    unfold permL
    rcases prIx h i with ⟨e1, e2⟩ | ⟨a, v, e1, e2, q⟩
    · rw [e1, e2]; exact ih
    · rw [e1, e2]; exact .cons q ih
def tCallP (n : Nat) (is : List Nat) (sp : Sp) (E : XK) (t : TA) : TE := fun σ H Q => t σ H fun vs H1 => vs.length = n ∧ sp (permL is vs) H1 Q E
section
variable {X : Cx} {CX : CXT} {n : Nat} {f : Addr} {fd : FuncData} {ps ks : List Str} {sp : Sp} {E : XK} {x : Str} {p pos : Pos} {kws : List Keyword} {tk : TA}
theorem g_callKP {is : List Nat} (G : GFn X.prog X.w X.K X.mg X.base CX n f fd ps sp) (hr : Room n X.A) (hgd : X.A.guards = some []) (hg : Gl X x) (hm : X.mg x = some (.ref f)) (hk : PySem.W.keepIn X.K (.ref f) = true) (hx : Passes CX X E)
    (hb : ∀ (s : Shared) (ws : List Value), X.K.In s.heap → ws.length = ps.length → BindsTo s fd ⟨[], ks.zip ws⟩ (ps.zip (permL is ws))) (hkw : PK X kws tk) (hd : (x == ("__debug__" : Str)) = false := by decide)
    (hall : (backToKw pos (keywordEach kws X.env)).all (·.1.isSome) = true := by rfl) (hks : (backToKw pos (keywordEach kws X.env)).filterMap (·.1) = ks := by rfl)
    (hp : ((backTo pos (starEach [] X.env)).any (·.1) || (backToKw pos (keywordEach kws X.env)).any (·.1.isNone)) = false := by rfl) : PE X (.Call (.Name x p) [] kws pos) (tCallP ps.length is sp E tk) := by
  constructor
  intro pins s σ H Q I h
  apply wpAny_Call_Name_kw
  apply ld_glob I hg hm _ hd
  apply PySem.W.callWith_KW0 (h₀ := X.base) I.ok.mod.kin hk hall _ hp
  apply thn (hkw.run pos pins s σ H _ I h)
  rintro ws s1 ⟨zs, H1, I1, r, hl, q⟩
  refine ⟨I1.kIn, ?_⟩
  rw [hks]
  have hl' : ws.length = ps.length := by rw [← r.length]; exact hl
  exact g_run G hr hgd hx (args := ⟨[], ks.zip ws⟩) I1 (prP r is) (hb s1 ws I1.kIn hl') q
end
section
variable {X : Cx} {n : Nat} {x : Str} {ps ks : List Str} {sem : Sem} {p pos : Pos} {kws : List Keyword} {fr : dA} {st : Stmt} {is : List Nat}
def dCallP (n : Nat) (is : List Nat) (sem : Sem) (fr : dA) : dE := fun ρ T k => fr ρ T fun as T1 => as.length = n ∧ (permL is as).length = n ∧ sem (permL is as) T1 k
theorem callP_ok {K : PySem.W.Frag} {E : XK} {σ : L2.St} {H : Hp} {Q : VK} (h : tD K (dCallP n is sem fr) σ H Q) : tCallP n is (spD K n sem) E (tDA K fr) σ H Q := by
  obtain ⟨ρ, T, t, F, k, w, h, f⟩ := h
  refine ⟨ρ, T, t, F, _, w, h, fun vs H1 F1 as T1 w1 g1 r1 h1 => ?_⟩
  have r2 := argP r1 is
  exact ⟨by rw [← r1.len]; exact h1.1, by rw [← r2.len]; exact h1.2.1, F1, t, T1, _, k, r2, w1, h1.2.2, f.then g1⟩
theorem d_callKP (D : Df X.K X.mg x st) (G : Ok X.prog X.w X.K X.mg X.base n x ps sem) (hr : Room n X.A) (hgd : X.A.guards = some [])
    (hb3 : ∀ (kV doc pm : Value) (an : Option Addr) (cdv ct : Value) (us : List Value), us.length = ps.length → bindArgs (PySem.W.fnOf x x (defArgs st) (defBody st) (defScope st) .none kV doc pm an cdv ct) ⟨[], ks.zip us⟩ = pure (ps.zip (permL is us)))
    (hkw : PKd X kws fr) (hg : Gl X x := by rfl) (hd : (x == ("__debug__" : Str)) = false := by decide)
    (hall : (backToKw pos (keywordEach kws X.env)).all (·.1.isSome) = true := by rfl) (hks : (backToKw pos (keywordEach kws X.env)).filterMap (·.1) = ks := by rfl)
    (hp : ((backTo pos (starEach [] X.env)).any (·.1) || (backToKw pos (keywordEach kws X.env)).any (·.1.isNone)) = false := by rfl) : PEd X (.Call (.Name x p) [] kws pos) (dCallP ps.length is sem fr) := by
  obtain ⟨f', fd', Fn, hm⟩ := D
  obtain ⟨f, fd, h1, h2, _, _, h5, oc', od', osl', lk'⟩ := G
  have ef : f' = f := by rw [h1] at hm; injection hm with e; injection e with e; exact e.symm
  subst ef
  obtain ⟨oc, od, kV, doc, pm, an, cdv, ct, osl, e, lk, _⟩ := Fn.ex
  have ed : fd = fd' := by
    rw [lk] at lk'
    injection lk' with e1
    injection e1 with _ _ e2
    injection e2 with e3
    exact e3.symm
  subst ed
  subst e
  exact pe_imp (g_callKP (E := E0) h5 hr hgd hg h1 h2 pass0 (fun s ws _ hl => .of_eq (hb3 kV doc pm an cdv ct ws hl)) hkw hd hall hks hp) fun _ _ _ h => callP_ok h
end
/-! the walker -/
def callP (n : Nat) (is : List Nat) (s : Sem) (as : List SV) (T : Tk) (k : KD) (fz : Fz k := ⟨⟩) : Prop := as.length = n ∧ (permL is as).length = n ∧ s (permL is as) T k
theorem h_callP {n : Nat} {is : List Nat} {s : Sem} {fr : dA} {ρ : En} {T : Tk} {k : KD} : dCallP n is s fr ρ T k = fr ρ T fun as T1 => callP n is s as T1 k := propext Iff.rfl
theorem callP_go {n : Nat} {is : List Nat} {s : Sem} {as : List SV} {T : Tk} {k : KD} : callP n is s as T k = (as.length = n ∧ (permL is as).length = n ∧ callS s (permL is as) T k) := propext Iff.rfl
theorem permL_n {α : Type} {xs : List α} : permL [] xs = [] := rfl
theorem permL_c {α : Type} {i : Nat} {is : List Nat} {xs : List α} : permL (i :: is) xs = pmC xs[i]? (permL is xs) := rfl
theorem pmC_s {α : Type} {x : α} {r : List α} : pmC (some x) r = x :: r := rfl
end L2.G

namespace L2.G
open PySem PySem.Spec PyProof.Rows
/-! sorted lists of tuples of ints, of either sign: over the library's sort of tuples by their keys -/
/-! over data -/
def tI (ns : List Int) : D := .tup (ns.map D.int)
/-- the order of tuples of one length -/
def lexLt : List Int → List Int → Bool
  | a :: r, b :: q => if a < b then true else if b < a then false else lexLt r q
  | _, _ => false
def insL (x : List Int) : List (List Int) → List (List Int)
  | [] => [x]
  | y :: r => if lexLt y x then y :: insL x r else x :: y :: r
def isort : List (List Int) → List (List Int)
  | [] => []
  | x :: r => insL x (isort r)
theorem insL_perm (x : List Int) : ∀ l, (insL x l).Perm (x :: l)
  | [] => .refl _
  | y :: r => by
    unfold insL
    split
    · exact ((insL_perm x r).cons y).trans (List.Perm.swap x y r)
    · exact .refl _
theorem isort_perm : ∀ l, (isort l).Perm l
  | [] => .refl _
  | x :: r => (insL_perm x (isort r)).trans ((isort_perm r).cons x)
theorem lexLt_tr : ∀ {a b c : List Int}, a.length = b.length → b.length = c.length → lexLt b a = false → lexLt c b = false → lexLt c a = false
  | [], [], [], _, _, _, _ => rfl
  | [], [], _ :: _, _, h, _, _ => by simp at h
  | [], _ :: _, _, h, _, _, _ => by simp at h
  | _ :: _, [], _, h, _, _, _ => by simp at h
  | _ :: _, _ :: _, [], _, h, _, _ => by simp at h
  | x :: a, y :: b, z :: c, h1, h2, p, q => by
    have l1 : a.length = b.length := by simpa using h1
    have l2 : b.length = c.length := by simpa using h2
    unfold lexLt at p q ⊢
    by_cases c1 : z < x
    · rw [if_pos c1]
      exfalso
      by_cases c2 : y < x
      · rw [if_pos c2] at p; exact nomatch p
      · by_cases c3 : z < y
        · rw [if_pos c3] at q; exact nomatch q
        · omega
    · rw [if_neg c1]
      by_cases c4 : x < z
      · rw [if_pos c4]
      · rw [if_neg c4]
        have e : z = x := by omega
        subst e
        by_cases c2 : y < z
        · rw [if_pos c2] at p; exact nomatch p
        · rw [if_neg c2] at p
          by_cases c3 : z < y
          · rw [if_pos c3] at q; exact nomatch q
          · rw [if_neg c3] at q p
            rw [if_neg c2] at q
            exact lexLt_tr l1 l2 p q
theorem lexLt_anti : ∀ {a b : List Int}, a.length = b.length → lexLt a b = false → lexLt b a = false → a = b
  | [], [], _, _, _ => rfl
  | [], _ :: _, h, _, _ => by simp at h
  | _ :: _, [], h, _, _ => by simp at h
  | x :: a, y :: b, h, p, q => by
    have l : a.length = b.length := by simpa using h
    unfold lexLt at p q
    by_cases c1 : x < y
    · rw [if_pos c1] at p; exact nomatch p
    · by_cases c2 : y < x
      · rw [if_pos c2] at q; exact nomatch q
      · rw [if_neg c1, if_neg c2] at p
        rw [if_neg c2, if_neg c1] at q
        rw [show x = y by omega, lexLt_anti l p q]
theorem lexLt_asym : ∀ {a b : List Int}, a.length = b.length → lexLt a b = true → lexLt b a = false
  | [], [], _, _ => rfl
  | [], _ :: _, h, _ => by simp at h
  | _ :: _, [], h, _ => by simp at h
  | x :: a, y :: b, h, p => by
    have l : a.length = b.length := by simpa using h
    unfold lexLt at p ⊢
    by_cases c1 : x < y
    · rw [if_neg (by omega), if_pos c1]
    · rw [if_neg c1] at p
      by_cases c2 : y < x
      · rw [if_pos c2] at p; exact nomatch p
      · rw [if_neg c2] at p
        rw [if_neg c2, if_neg c1]
        exact lexLt_asym l p
theorem insL_srt {d : Nat} {x : List Int} (hx : x.length = d) : ∀ {l : List (List Int)}, (∀ y ∈ l, y.length = d) → l.Pairwise (fun a b => lexLt b a = false) → (insL x l).Pairwise (fun a b => lexLt b a = false)
  | [], _, _ => by unfold insL; exact List.pairwise_singleton _ _
  | y :: r, hl, h => by
    obtain ⟨h1, h2⟩ := List.pairwise_cons.mp h
    have hy := hl y List.mem_cons_self
    have hr := fun z hz => hl z (List.mem_cons_of_mem _ hz)
    unfold insL
    split
    · rename_i c
      refine List.pairwise_cons.mpr ⟨fun z hz => ?_, insL_srt hx hr h2⟩
      rcases List.mem_cons.mp ((insL_perm x r).mem_iff.mp hz) with rfl | hz
      · exact lexLt_asym (by omega) c
      · exact h1 z hz
    · rename_i c
      have c : lexLt y x = false := by simpa using c
      refine List.pairwise_cons.mpr ⟨fun z hz => ?_, h⟩
      rcases List.mem_cons.mp hz with rfl | hz
      · exact c
      · exact lexLt_tr (b := y) (by omega) (by rw [hy, hr z hz]) c (h1 z hz)
theorem isort_srt {d : Nat} : ∀ {l : List (List Int)}, (∀ y ∈ l, y.length = d) → (isort l).Pairwise (fun a b => lexLt b a = false)
  | [], _ => List.Pairwise.nil
  | x :: r, h => insL_srt (h x List.mem_cons_self) (fun y hy => h y (List.mem_cons_of_mem _ ((isort_perm r).mem_iff.mp hy))) (isort_srt fun y hy => h y (List.mem_cons_of_mem _ hy))
theorem srt_uniq {d : Nat} {l m : List (List Int)} (hl : ∀ y ∈ l, y.length = d) (p : l.Perm m) (h1 : l.Pairwise (fun a b => lexLt b a = false)) (h2 : m.Pairwise (fun a b => lexLt b a = false)) : l = m :=
  List.Perm.eq_of_pairwise (fun a b ha hb h h' => lexLt_anti (by rw [hl a ha, hl b (p.mem_iff.mpr hb)]) h' h) h1 h2 p
/-! the library's key of a tuple of ints -/
abbrev noS : Nat → Bool := fun _ => false
def kyI (n : List Int) : List (Int ⊕ List Nat) := n.map Sum.inl
theorem kyI_lex : ∀ {a b : List Int}, a.length = b.length → PyProof.Rows.lexLt PyProof.Rows.itemOrd (kyI a) (kyI b) = lexLt a b
  | [], [], _ => rfl
  | [], _ :: _, e => by simp at e
  | _ :: _, [], e => by simp at e
  | x :: a, y :: b, e => by
    have ih := kyI_lex (a := a) (b := b) (by simpa using e)
    have st := PyProof.Rows.lex_cons (O := PyProof.Rows.itemOrd) (Sum.inl x) (Sum.inl y) (kyI a) (kyI b)
    rw [ih] at st
    refine st.trans ?_
    show (decide (x < y) || (!decide (y < x) && lexLt a b)) = lexLt (x :: a) (y :: b)
    rw [lexLt]
    by_cases p : x < y
    · rw [if_pos p, decide_eq_true p]; rfl
    · rw [if_neg p, decide_eq_false p]
      by_cases q : y < x
      · rw [if_pos q, decide_eq_true q]; rfl
      · rw [if_neg q, decide_eq_false q]; rfl
theorem items_ky : ∀ (n : List Int) (us : List Value) (i : Nat), Vals (n.map V.int) us → PyProof.Rows.tupItems noS i us = some (kyI n)
  | [], _, _, .nil => rfl
  | x :: n, _, i, .cons r q => by
    obtain ⟨t, rfl⟩ := r
    have ih := items_ky n _ (i + 1) q
    show (if false = true then none else (PyProof.Rows.tupItems noS (i + 1) _).map (Sum.inl x :: ·)) = _
    rw [if_neg (show ¬ false = true by decide), ih]
    rfl
section
variable {X : Cx} {pins : List (Addr × Obj)} {σ : L2.St} {H : Hp} {s : Shared}
theorem tup_obj (I : Inv X pins σ H s) {p : Addr × List Int} (h : SqT X.K H p.1 (p.2.map V.int)) : ∃ o xs n, s.heap.get? p.1 = some o ∧ o.cls = .type "tuple" ∧ o.data = .seq xs n ∧ Vals (p.2.map V.int) xs.toList := by
  obtain ⟨us, v, ⟨o, g, c, n, d⟩, _⟩ := I.tuple h
  exact ⟨o, us.toArray, n, g, c, d, v⟩
theorem tup_ky (I : Inv X pins σ H s) {p : Addr × List Int} (h : SqT X.K H p.1 (p.2.map V.int)) : PyProof.Rows.G.tupKeyC s.heap noS (.ref p.1) = some (kyI p.2) := by
  obtain ⟨o, xs, n, g, c, d, v⟩ := tup_obj I h
  have e := items_ky p.2 _ 0 v
  have t : PyProof.Rows.G.isTupObj s.heap (.ref p.1) = true := by
    unfold PyProof.Rows.G.isTupObj
    simp only [g, c]
    decide
  unfold PyProof.Rows.G.tupKeyC
  rw [if_pos t]
  unfold PyProof.Rows.tupKey
  simp only [g, d]
  exact e
theorem tup_first (I : Inv X pins σ H s) : ∀ (L : List (Addr × List Int)), (∀ p ∈ L, SqT X.K H p.1 (p.2.map V.int) ∧ p.2 ≠ []) → ∃ fs, PyProof.Rows.TupsOf s.heap noS (L.map fun p => Value.ref p.1) fs
  | [], _ => ⟨[], .nil⟩
  | p :: L, h => by
    obtain ⟨fs, ih⟩ := tup_first I L fun q hq => h q (List.mem_cons_of_mem _ hq)
    obtain ⟨h1, h2⟩ := h p List.mem_cons_self
    obtain ⟨o, xs, n, g, c, d, v⟩ := tup_obj I h1
    obtain ⟨m, r, er⟩ := List.exists_cons_of_ne_nil h2
    rw [er] at v
    obtain ⟨u, us, ex⟩ : ∃ u us, xs.toList = u :: us := by
      cases z : xs.toList with
      | nil => rw [z] at v; cases v
      | cons u us => exact ⟨u, us, rfl⟩
    rw [ex] at v
    have hu : ∃ t, u = .int m t := by
      cases v with
      | cons r _ => exact r
    obtain ⟨t, rfl⟩ := hu
    have g0 : xs[0]? = some (.int m t) := by rw [← Array.getElem?_toList, ex]; rfl
    exact ⟨_, .cons ⟨p.1, o, xs, n, rfl, g, c, d, g0, fun _ => ⟨m, t, rfl⟩, fun z => nomatch z⟩ ih⟩
end
theorem perm_map_ex {α β : Type} {f : α → β} : ∀ {l : List α} {ys : List β}, ys.Perm (l.map f) → ∃ l' : List α, l'.Perm l ∧ ys = l'.map f
  | [], ys, h => ⟨[], .refl _, List.perm_nil.mp h⟩
  | x :: l, ys, h => by
    have hm : f x ∈ ys := h.mem_iff.mpr List.mem_cons_self
    obtain ⟨s, t, rfl⟩ := List.append_of_mem hm
    have h2 : (s ++ t).Perm (l.map f) := by
      have h3 : (s ++ f x :: t).Perm (f x :: l.map f) := h
      exact (List.perm_cons (f x)).mp (List.perm_middle.symm.trans h3)
    obtain ⟨l', p, e⟩ := perm_map_ex h2
    obtain ⟨l1, l2, rfl, rfl, rfl⟩ := List.map_eq_append_iff.mp e.symm
    refine ⟨l1 ++ x :: l2, List.perm_middle.trans (p.cons x), ?_⟩
    rw [List.map_append, List.map_cons]
theorem zip_own : ∀ L : List (Addr × List Int), (L.map fun p => Value.ref p.1).zip (L.map fun p => Value.ref p.1) = L.map fun p => (Value.ref p.1, Value.ref p.1)
  | [] => rfl
  | p :: L => by rw [List.map_cons, List.zip_cons_cons, zip_own L]; rfl
def rSortX (K : PySem.W.Frag) : List V → Hp → VK → Prop := fun vs H Q => ∃ (a : Addr) (L : List (Addr × List Int)) (d : Nat), vs = [.ref a] ∧ SqL K H a (L.map fun p => V.ref p.1) ∧ (∀ p ∈ L, SqT K H p.1 (p.2.map V.int) ∧ p.2.length = d) ∧ 1 ≤ d ∧
  ∀ (L' : List (Addr × List Int)) (b : Addr), L'.Perm L → L'.Pairwise (fun x y => lexLt y.2 x.2 = false) → H b = none → Q (.ref b) (upd H b (.lst (L'.map fun p => V.ref p.1)))
theorem cr_sortX {X : Cx} : CallR X (.builtin "sorted") (rSortX X.K) := by
  intro pins s σ H vs us Q I r ⟨a, L, d, e, sq, tp, d1, fin⟩
  subst e
  obtain ⟨its, vl, pl, lim⟩ := I.list sq
  have ei := refs_of_vals vl
  subst ei
  rw [Vals.ref1 r]
  obtain ⟨fs, ht⟩ := tup_first I L fun p hp => ⟨(tp p hp).1, fun z => by have := (tp p hp).2; rw [z] at this; simp at this; omega⟩
  have lim2 : (L.map fun p => Value.ref p.1).length ≤ sizeLine := by rw [List.length_map] at lim ⊢; exact lim
  refine PyProof.Rows.G.sorted_tups pl.isList ht (fun v hv => ?_) lim2 fun st pm so _ => ?_
  · obtain ⟨p, hp, rfl⟩ := List.mem_map.mp hv
    exact ⟨_, tup_ky I (tp p hp).1⟩
  have e0 : (PyProof.Rows.pairsOf (L.map fun p => Value.ref p.1)).toList = L.map fun p => (Value.ref p.1, Value.ref p.1) := by rw [PyProof.Rows.pairsOf_toList]; exact zip_own L
  have pm2 : (arrOf st).toList.Perm (L.map fun p => (Value.ref p.1, Value.ref p.1)) := by rw [← e0]; exact pm.toList
  obtain ⟨L', pL, eL⟩ := perm_map_ex pm2
  have mem : ∀ p ∈ L', p ∈ L := fun p hp => pL.mem_iff.mp hp
  have at_ : ∀ i (hi : i < L'.length), PyProof.Rows.KK (PyProof.Rows.G.tupKindC s.heap noS) (arrOf st) i = kyI (L'[i]).2 := fun i hi => by
    have g : (arrOf st)[i]? = some (Value.ref (L'[i]).1, Value.ref (L'[i]).1) := by rw [← Array.getElem?_toList, eL, List.getElem?_map, List.getElem?_eq_getElem hi]; rfl
    unfold PyProof.Rows.KK
    rw [g]
    show ((PyProof.Rows.G.tupKeyC s.heap noS (.ref (L'[i]).1)).getD _) = _
    rw [tup_ky I (tp _ (mem _ (List.getElem_mem hi))).1]
    rfl
  have sz : (PyProof.Rows.pairsOf (L.map fun p => Value.ref p.1)).size = L'.length := by rw [← Array.length_toList, e0, List.length_map, pL.length_eq]
  have pw : L'.Pairwise (fun x y => lexLt y.2 x.2 = false) := by
    rw [List.pairwise_iff_getElem]
    intro i j hi hj ij
    have h := so i j (Nat.le_of_lt ij) (by rw [sz]; exact hj)
    rw [at_ i hi, at_ j hj] at h
    have dl : ∀ n (hn : n < L'.length), (L'[n]).2.length = d := fun n hn => (tp _ (mem _ (List.getElem_mem hn))).2
    rw [← kyI_lex (by rw [dl i hi, dl j hj])]
    exact h
  have eo : ((arrOf st).map (·.2)).toList = L'.map fun p => Value.ref p.1 := by rw [Array.toList_map, eL, List.map_map]; rfl
  obtain ⟨c, at2⟩ := PyProof.Rows.sortedAll_at s.heap (L.map fun p => Value.ref p.1) ((arrOf st).map (·.2))
  generalize (arrOf st).map (·.2) = out at eo at2 ⊢
  have len : (L'.map fun p => V.ref p.1).length ≤ sizeLine := by rw [List.length_map, pL.length_eq, ← List.length_map (f := fun p : Addr × List Int => V.ref p.1)]; exact lim
  have up : s.heap.objs.size ≤ s.heap.objs.size + 1 := Nat.le_succ _
  refine ⟨.ref (s.heap.objs.size + 1), upd H (s.heap.objs.size + 1) (.lst (L'.map fun p => V.ref p.1)), ?_, rfl, fin L' _ pL pw (I.hok.fresh up)⟩
  exact I.laid (t' := s.toks) (fun _ _ z => PyProof.Rows.sortedAll_old z) up ⟨len, out.toList, c, by rw [eo]; exact vals_of_refs L', at2⟩
def tups? : List D → Option (List (List Int))
  | [] => some []
  | .tup xs :: r => match nums? xs, tups? r with | some n, some m => some (n :: m) | _, _ => none
  | _ :: _ => none
def TupsD (nss : List (List Int)) : Prop := nss.length < 64 ∧ ∃ d, 1 ≤ d ∧ ∀ n ∈ nss, n.length = d
def stR : Option (List (List Int)) → PD | some nss => some (TupsD nss, .lst ((isort nss).map tI)) | none => none
def fSortT : List D → PD | [.lst xs] => stR (tups? xs) | _ => none
theorem fSortT_lst {xs : List D} : fSortT [.lst xs] = stR (tups? xs) := rfl
theorem stR_some {n : List (List Int)} : stR (some n) = some (TupsD n, .lst ((isort n).map tI)) := rfl
theorem tups_some : ∀ {ds : List D} {nss : List (List Int)}, tups? ds = some nss → ds = nss.map tI
  | [], nss, e => by cases e; rfl
  | d :: ds, nss, e => by
    have ih := fun cs => tups_some (ds := ds) (nss := cs)
    cases d with
    | tup xs =>
      unfold tups? at e
      cases e1 : nums? xs with
      | none => rw [e1] at e; cases e
      | some n =>
        cases e2 : tups? ds with
        | none => rw [e1, e2] at e; cases e
        | some m =>
          rw [e1, e2] at e
          cases e
          rw [ih m e2, nums_some e1]
          rfl
    | _ => exact absurd e (by simp [tups?])
theorem tups_inv {K : PySem.W.Frag} {F : Hp} : ∀ {nss : List (List Int)} {vs : List V}, RepL K F (nss.map tI) vs → ∃ L : List (Addr × List Int), vs = L.map (fun p => V.ref p.1) ∧ nss = L.map (·.2) ∧ ∀ p ∈ L, SqT K F p.1 (p.2.map V.int)
  | [], _, r => by cases r; exact ⟨[], rfl, rfl, fun p h => nomatch h⟩
  | n :: nss, _, r => by
    cases r with
    | cons r q =>
      obtain ⟨L, h1, h2, h3⟩ := tups_inv q
      obtain ⟨a, xs, rfl, h, r⟩ := rep_tup r
      have e := nums_inv r
      subst e
      refine ⟨(a, n) :: L, by rw [h1]; rfl, by rw [h2]; rfl, fun p hp => ?_⟩
      rcases List.mem_cons.mp hp with e | hp
      · rw [e]; exact h
      · exact h3 p hp
theorem tups_rep {K : PySem.W.Frag} {F : Hp} {ds : List D} {vs : List V} {nss : List (List Int)} (r : RepL K F ds vs) (e : tups? ds = some nss) : ∃ L : List (Addr × List Int), vs = L.map (fun p => V.ref p.1) ∧ nss = L.map (·.2) ∧ ∀ p ∈ L, SqT K F p.1 (p.2.map V.int) := by
  rw [tups_some e] at r
  exact tups_inv r
theorem ints_rep {K : PySem.W.Frag} {F : Hp} : ∀ n : List Int, RepL K F (n.map D.int) (n.map V.int)
  | [] => .nil
  | a :: n => .cons (.int a) (ints_rep n)
theorem rep_tI {K : PySem.W.Frag} {F : Hp} : ∀ {L : List (Addr × List Int)}, (∀ p ∈ L, SqT K F p.1 (p.2.map V.int)) → RepL K F ((L.map (·.2)).map tI) (L.map fun p => V.ref p.1)
  | [], _ => .nil
  | p :: L, h => .cons (.tup (h p List.mem_cons_self) (ints_rep p.2)) (rep_tI fun q hq => h q (List.mem_cons_of_mem _ hq))
def oSortT (ds : List D) (k : D → Prop) : Prop := match ds with | [.lst xs] => (match tups? xs with | some nss => TupsD nss ∧ k (.lst ((isort nss).map tI)) | none => False) | _ => False
theorem oSortT_ok {K : PySem.W.Frag} : BltS K (rSortX K) oSortT := by
  intro t F H T ds vs k Q wt r q f
  unfold oSortT at q
  split at q
  · split at q
    · rename_i nss e
      cases r with
      | cons r rr =>
        cases rr
        obtain ⟨a, ws, rfl, h, r⟩ := rep_lst r
        obtain ⟨⟨_, d, d1, dl⟩, q⟩ := q
        obtain ⟨L, rfl, hn, hs⟩ := tups_rep r e
        have inn : ∀ p ∈ L, p.2.length = d := fun p hp => dl _ (by rw [hn]; exact List.mem_map.mpr ⟨p, hp, rfl⟩)
        refine ⟨a, L, d, rfl, .of (wt.sub _ _ h), fun p hp => ⟨same_t wt.sub (hs p hp), inn p hp⟩, d1, fun L' b pL pw hb => ?_⟩
        have e2 : L'.map (·.2) = isort nss := by
          have pm : (L'.map (·.2)).Perm nss := by rw [hn]; exact pL.map _
          exact srt_uniq (d := d) (fun y hy => dl y (pm.mem_iff.mp hy)) (pm.trans (isort_perm nss).symm) (by rw [List.pairwise_map]; exact pw) (isort_srt dl)
        rw [← e2] at q
        exact f.lst wt (rep_tI fun p hp => hs p (pL.mem_iff.mp hp)) hb q
    · exact q.elim
  · exact q.elim
theorem fSortT_ok {ds : List D} {k : D → Prop} (h : oG fSortT ds k) : oSortT ds k := by
  refine one_ok (f := fSortT) (o := oSortT) ?_ ?_ ?_ h
  · intro k h; exact h.elim
  · intro d k h
    cases d <;> first | exact h.elim | skip
    rename_i xs
    unfold oG fSortT at h
    unfold oSortT
    simp only at h ⊢
    match q : tups? xs with
    | none => rw [q] at h; exact h.elim
    | some n => rw [q] at h; exact h
  · intro d e r k h; cases d <;> exact h.elim
section
variable {X : Cx} {e : Expr} {fr : dA} {p pos : Pos} {es : List Expr}
theorem g_sortT (hm : X.mg "sorted" = none) (ha : PAd X (e :: es) fr) (hg : Gl X "sorted" := by rfl)
    (he : starEach (e :: es) X.env = (false, eval e X.env) :: starEach es X.env := by rfl) (hp : (backTo pos (starEach es X.env)).any (·.1) = false := by rfl) : PEd X (.Call (.Name "sorted" p) (e :: es) [] pos) (dBlt (oG fSortT) fr) := d_blt cr_sortX (oSortT_ok.imp fun _ _ => fSortT_ok) hm ha (by decide +kernel) hg (by decide) (by decide) he hp
end
/-! bit_length -/
def bitI (i : Int) : Int := (Builtin.Int.intBits i : Nat)
def fBitL : D → D → PD | .int i, _ => some (True, .int (bitI i)) | _, _ => none
theorem fBitL_int {i : Int} {d : D} : fBitL (.int i) d = some (True, .int (bitI i)) := rfl
/-! short lists -/
theorem tups_nil : tups? [] = some [] := rfl
def tpC : Option (List Int) → Option (List (List Int)) → Option (List (List Int)) | some n, some m => some (n :: m) | _, _ => none
theorem tups_c {xs r : List D} : tups? (.tup xs :: r) = tpC (nums? xs) (tups? r) := rfl
theorem tpC_some {n : List Int} {m : List (List Int)} : tpC (some n) (some m) = some (n :: m) := rfl
theorem isort2 (a b : List Int) : isort [a, b] = if lexLt b a then [b, a] else [a, b] := rfl
theorem isort_p {d : Nat} {l m : List (List Int)} (hl : ∀ y ∈ l, y.length = d) (p : l.Perm m) : isort l = isort m :=
  srt_uniq (d := d) (fun y hy => hl y ((isort_perm l).mem_iff.mp hy)) ((isort_perm l).trans (p.trans (isort_perm m).symm)) (isort_srt hl) (isort_srt fun y hy => hl y (p.mem_iff.mpr hy))
end L2.G

namespace L2.G
open PySem PySem.Spec PyProof.Rows
/-! a call whose first arguments stand by place and whose later ones by name -/
def aApp (m n : Nat) (f g : dA) : dA := fun ρ T k => f ρ T fun as T1 => g ρ T1 fun bs T2 => as.length = m ∧ bs.length = n ∧ k (as ++ bs) T2
section
variable {X : Cx} {CX : CXT} {n m : Nat} {f : Addr} {fd : FuncData} {ps ks : List Str} {sp : Sp} {E : XK} {x : Str} {p pos : Pos} {e : Expr} {es : List Expr} {kws : List Keyword} {t tk : TA}
end
section
variable {X : Cx} {n m : Nat} {x : Str} {ps ks : List Str} {sem : Sem} {p pos : Pos} {e : Expr} {es : List Expr} {kws : List Keyword} {fa fr : dA} {st : Stmt} {is : List Nat}
end
/-! the walker -/
theorem h_aApp {m n : Nat} {f g : dA} {ρ : En} {T : Tk} {k : List SV → Tk → Prop} : aApp m n f g ρ T k = f ρ T fun as T1 => g ρ T1 fun bs T2 => as.length = m ∧ bs.length = n ∧ k (as ++ bs) T2 := propext Iff.rfl
end L2.G

namespace L2.G
open PySem PySem.Spec PyProof.Rows
/-! x, y = [..], a where x's list is its own -/
section
variable {X : Cx} {a : Expr} {es : List Expr} {fa : dE} {fr : dA} {pos : Pos}
def sParF (i j : Nat) (fr : dA) (fa : dE) : dS := fun k ρ T => fr ρ T fun as T1 => match vals? as with | some ds => ds.length ≤ 1000000 ∧ fa ρ T1 fun d T2 => k.nx ((ρ.set i (some (.own ds))).set j (some (.val d))) T2 | none => False
end
/-! the walker -/
theorem h_parF {i j : Nat} {fa : dE} {fr : dA} {K : dEnds} {ρ : En} {T : Tk} : sParF i j fr fa K ρ T = fr ρ T fun as T1 => sqK (vals? as) fun ds => ds.length ≤ 1000000 ∧ fa ρ T1 fun d T2 => setE ((ρ.set i (some (.own ds))).set j (some (.val d))) fun ρ => K.nx ρ T2 := propext Iff.rfl
end L2.G

namespace L2.G
open PySem PySem.Spec PyProof.Rows
/-! the head: what the top leaves, read by one run off the tree (nothing of the top is written out) -/
/-- the value u is the data d; g tells the object at an address -/
def repB (g : Addr → Option Obj) : Nat → D → Value → Bool
  | 0, _, _ => false
  | _ + 1, .int i, .int j _ => decide (i = j)
  | _ + 1, .str i, .str j _ => decide (i = j)
  | _ + 1, .bl i, .bool j => i == j
  | _ + 1, .non, .none => true
  | n + 1, .tup ds, .ref a => (match g a with
    | some ⟨.type c, _, .seq its _, _⟩ => decide (c = "tuple") && (Nat.ble its.size 1000000 && (Nat.beq ds.length its.toList.length && (ds.zip its.toList).all fun p => repB g n p.1 p.2))
    | _ => false)
  | _ + 1, _, _ => false
/-- the objects within a value -/
def inV (g : Addr → Option Obj) : Nat → Value → List Addr
  | 0, _ => []
  | n + 1, .ref a => a :: (match g a with
    | some ⟨_, _, .seq its _, _⟩ => its.toList.flatMap (inV g n)
    | _ => [])
  | _ + 1, _ => []
theorem repB_l {g : Addr → Option Obj} {K : PySem.W.Frag} {n : Nat} (ih : ∀ {d : D} {u : Value}, (∀ a ∈ inV g n u, ∀ o, g a = some o → K.lookup a = some o) → repB g n d u = true → GRep K d u) : ∀ {ds : List D} {us : List Value}, (∀ a ∈ us.flatMap (inV g n), ∀ o, g a = some o → K.lookup a = some o) → ds.length = us.length → ((ds.zip us).all fun p => repB g n p.1 p.2) = true → GRepL K ds us
  | [], [], _, _, _ => .nil
  | [], _ :: _, _, e, _ => by simp at e
  | _ :: _, [], _, e, _ => by simp at e
  | d :: ds, u :: us, k, e, h => by
    rw [List.zip_cons_cons, List.all_cons, Bool.and_eq_true] at h
    rw [List.flatMap_cons] at k
    exact .cons (ih (fun a q => k a (List.mem_append.mpr (.inl q))) h.1) (repB_l ih (fun a q => k a (List.mem_append.mpr (.inr q))) (by simpa using e) h.2)
theorem repB_ok {g : Addr → Option Obj} {K : PySem.W.Frag} : ∀ {n : Nat} {d : D} {u : Value}, (∀ a ∈ inV g n u, ∀ o, g a = some o → K.lookup a = some o) → repB g n d u = true → GRep K d u
  | 0, _, _, _, h => nomatch h
  | n + 1, d, u, k, h => by
    have ih := fun {d u} => repB_ok (g := g) (K := K) (n := n) (d := d) (u := u)
    cases d with
    | int i =>
      cases u with
      | int j t => have e : i = j := of_decide_eq_true h; subst e; exact .int _ _
      | _ => exact nomatch h
    | str i =>
      cases u with
      | str j t => have e : i = j := of_decide_eq_true h; subst e; exact .str _ _
      | _ => exact nomatch h
    | bl i =>
      cases u with
      | bool j => have e : i = j := eq_of_beq h; subst e; exact .bl _
      | _ => exact nomatch h
    | non =>
      cases u with
      | none => exact .non
      | _ => exact nomatch h
    | tup ds =>
      cases u with
      | ref a =>
        have h1 : (match g a with
          | some ⟨.type c, _, .seq its _, _⟩ => decide (c = "tuple") && (Nat.ble its.size 1000000 && (Nat.beq ds.length its.toList.length && (ds.zip its.toList).all fun p => repB g n p.1 p.2))
          | _ => false) = true := h
        have k1 : ∀ b ∈ a :: (match g a with
          | some ⟨_, _, .seq its _, _⟩ => its.toList.flatMap (inV g n)
          | _ => []), ∀ o, g b = some o → K.lookup b = some o := k
        cases q : g a with
        | none => rw [q] at h1; cases h1
        | some o =>
          have q2 := k1 a List.mem_cons_self o q
          obtain ⟨oc, od, dt, osl⟩ := o
          rw [q] at h1 k1
          cases oc with
          | type c =>
            cases dt with
            | seq its m =>
              have h2 : (decide (c = "tuple") && (Nat.ble its.size 1000000 && (Nat.beq ds.length its.toList.length && (ds.zip its.toList).all fun p => repB g n p.1 p.2))) = true := h1
              simp only [Bool.and_eq_true] at h2
              obtain ⟨a1, a2, a3, a4⟩ := h2
              have e := of_decide_eq_true a1
              subst e
              exact .tup q2 (repB_l ih (fun b qb => k1 b (List.mem_cons_of_mem _ qb)) (Nat.eq_of_beq_eq_true a3) a4) (Nat.le_of_ble_eq_true a2)
            | _ => cases h1
          | _ => cases dt <;> cases h1
      | _ => exact nomatch h
    | _ => cases u <;> exact nomatch h
/-! dicts of the module whose keys are tuples of ints, whose values are ints -/
def thI (k : List Int) : Int := reduceHash (Builtin.Tuple.tupleHashOf (k.map hashInt))
/-- an entry as it lies: key, its tuple's address, value -/
abbrev GE := List Int × Addr × Int × Tok
def geE (y : GE) : DictEntry := ⟨thI y.1, .ref y.2.1, .int y.2.2.1 y.2.2.2⟩
def GT (K : PySem.W.Frag) (mg : Str → Option Value) (x : Str) (kvs : List (List Int × Int)) : Prop :=
  ∃ (a : Addr) (es : Array DictEntry) (n : Nat) (L : List GE), mg x = some (.ref a) ∧ (a == sysModules) = false ∧ K.lookup a = some ⟨.type "dict", none, .dict es n, #[]⟩ ∧
    es.toList = L.map geE ∧ (∀ y ∈ L, GRep K (tI y.1) (.ref y.2.1)) ∧ (L.map (·.1)).Nodup ∧ L.map (fun y => (y.1, y.2.2.1)) = kvs
def entB (g : Addr → Option Obj) (c : List Int × Int) (e : DictEntry) : Bool := decide (e.hash = thI c.1) && (repB g 3 (tI c.1) e.key && (match e.val with
  | .int j _ => decide (j = c.2)
  | _ => false))
theorem entB_l {g : Addr → Option Obj} {K : PySem.W.Frag} : ∀ {kvs : List (List Int × Int)} {es : List DictEntry}, (∀ e ∈ es, ∀ a ∈ inV g 3 e.key, ∀ o, g a = some o → K.lookup a = some o) → kvs.length = es.length → ((kvs.zip es).all fun p => entB g p.1 p.2) = true →
    ∃ L : List GE, es = L.map geE ∧ (∀ y ∈ L, GRep K (tI y.1) (.ref y.2.1)) ∧ L.map (fun y => (y.1, y.2.2.1)) = kvs
  | [], [], _, _, _ => ⟨[], rfl, fun _ h => (nomatch h), rfl⟩
  | [], _ :: _, _, e, _ => by simp at e
  | _ :: _, [], _, e, _ => by simp at e
  | c :: kvs, e :: es, h, hl, hb => by
    rw [List.zip_cons_cons, List.all_cons, Bool.and_eq_true] at hb
    obtain ⟨L, h1, h2, h3⟩ := entB_l (fun e he => h e (List.mem_cons_of_mem _ he)) (by simpa using hl) hb.2
    obtain ⟨hh, key, val⟩ := e
    have b := hb.1
    unfold entB at b
    simp only [Bool.and_eq_true, decide_eq_true_eq] at b
    obtain ⟨b1, b2, b3⟩ := b
    have r := repB_ok (g := g) (K := K) (fun a ha o ho => h _ List.mem_cons_self a ha o ho) b2
    cases val with
    | int j t =>
      have b4 : j = c.2 := of_decide_eq_true b3
      unfold tI at r
      cases r with
      | tup q1 q2 q3 =>
        refine ⟨(c.1, _, j, t) :: L, by rw [h1, List.map_cons]; show _ = geE (c.1, _, j, t) :: _; unfold geE; rw [← b1], fun y hy => ?_, by rw [List.map_cons, h3, b4]⟩
        rcases List.mem_cons.mp hy with rfl | hy
        · unfold tI; exact .tup q1 q2 q3
        · exact h2 y hy
    | _ => cases b3
/-- what is read: defs, names that stand for no name of the module, built-ins that were brought in, constants -/
structure Hd where
  defs : List (Str × Stmt)
  free : List Str
  blt : List (Str × String)
  cons : List (Str × D)
  cls : List Str := []
  prs : List (Str × Str) := []
  /-- classes with an own __init__: name, field, qualified name, the def -/
  ini : List (Str × Str × Str × Stmt) := []
  /-- classes whose instances isinstance asks -/
  exs : List Str := []
  kis : List (Str × Str × Bool) := []
  kib : List (Str × String × Bool) := []
  /-- the dict of all modules stands where it does -/
  sys : Bool := false
  /-- the defs that make lambdas -/
  lam : List Str := []
  /-- dicts of tuples of ints to ints -/
  tab : List (Str × List (List Int × Int)) := []
def hdD (d : Str × Stmt) : He.FnD := ⟨(d.1, none), d.1, d.1, defArgs d.2, defBody d.2, defScope d.2⟩
def lkE (es : List DictEntry) (x : Str) : Option Value := (es.find? (·.key.isStr x)).map (·.val)
def codB (g : Addr → Option Obj) (cd : Value) (q : Str) : Bool := match cd with
  | .ref c => (match g c with
    | some ⟨_, _, .fields vs, _⟩ => (match vs.toList with
      | _ :: .str n _ :: _ => n == q
      | _ => false)
    | _ => false)
  | _ => false
/-- a def as the heap has it -/
def defV (g : Addr → Option Obj) (es : List DictEntry) (x : Str) : Bool × He.FnV := match lkE es x with
  | some (.ref f) => (match g f with
    | some ⟨_, _, .func fd, _⟩ => (codB g fd.code x, some (fd.name, fd.qualname, fd.params, fd.body, fd.scope, fd.globals, fd.closure, fd.defaults, fd.builtins))
    | _ => (false, none))
  | _ => (false, none)
def bltB (es : List DictEntry) (x : Str × String) : Bool := match lkE es x.1 with
  | some (.builtin m) => decide (m = x.2)
  | _ => false
def conB (g : Addr → Option Obj) (es : List DictEntry) (c : Str × D) : Bool := match lkE es c.1 with
  | some u => repB g 9 c.2 u
  | none => false
def adV : Value → List Addr
  | .ref a => [a]
  | _ => []
def gtB (g : Addr → Option Obj) (es : List DictEntry) (c : Str × List (List Int × Int)) : Bool := match lkE es c.1 with
  | some (.ref a) => !(a == sysModules) && (match g a with
    | some ⟨.type t, none, .dict es2 _, sl⟩ => decide (t = "dict") && (sl.toList.isEmpty && (Nat.beq c.2.length es2.toList.length && (c.2.zip es2.toList).all fun p => entB g p.1 p.2))
    | _ => false)
  | _ => false
/-- the tuples that are keys -/
def keyAs (g : Addr → Option Obj) (a : Addr) : List Addr := match g a with
  | some ⟨_, _, .dict es2 _, _⟩ => es2.toList.flatMap fun e => inV g 3 e.key
  | _ => []
/-- the addresses that the facts lean on -/
def asOf (g : Addr → Option Obj) (es : List DictEntry) : List Addr := mainGlobals :: (es.flatMap fun e => adV e.val ++ ((adV e.val).flatMap fun f => match g f with
  | some ⟨_, _, .func fd, _⟩ => adV fd.code
  | _ => []) ++ (inV g 9 e.val ++ (adV e.val).flatMap (keyAs g)))
/-- the addresses of own classes -/
def clsAs1 (g : Addr → Option Obj) (es : List DictEntry) (x : Str) : List Addr := match lkE es x with
  | some (.ref C) => (match g C with
    | some ⟨_, _, .cls cd, _⟩ => C :: cd.ns :: (cd.mro.flatMap fun v => (match v with
      | .ref A => A :: (match g A with
        | some ⟨_, _, .cls cd2, _⟩ => [cd2.ns]
        | _ => [])
      | _ => [])) ++ (match g cd.ns with
        | some ⟨_, _, .dict es2 _, _⟩ => (match lkE es2.toList "__init__" with
          | some (.ref f) => f :: (match g f with
            | some ⟨_, _, .func fd, _⟩ => adV fd.code
            | _ => [])
          | _ => [])
        | _ => [])
    | _ => [])
  | _ => []
def clsAs (g : Addr → Option Obj) (es : List DictEntry) (cls : List Str) : List Addr := cls.flatMap (clsAs1 g es)
/-- an own class without own __init__ over ValueError -/
def xcB (K : PySem.W.Frag) (C : Addr) : Bool := PySem.W.excIn K C PySem.HandSPX.veTail "ValueError.__new__" && (PySem.W.keepIn K (.ref C) && (PySem.W.subIn K (.ref C) (.type "BaseException") == some true && PySem.W.typeIn K (.ref C) == some (.type "type")))
def xcE (K : PySem.W.Frag) (es : List DictEntry) (x : Str) : Bool := match lkE es x with
  | some (.ref C) => xcB K C
  | _ => false
def prE (K : PySem.W.Frag) (es : List DictEntry) (p : Str × Str) : Bool := match lkE es p.1, lkE es p.2 with
  | some u, some (.ref C) => PySem.W.exmOne K u (.ref C) == some true
  | _, _ => false
/-- an own class with an own __init__ over ValueError -/
def xgC (K : PySem.W.Frag) (C : Addr) : Bool := match K.lookup C with
  | some ⟨.type "type", _, .cls cd, sl⟩ => (match cd.mro, sl.toList with
    | .ref C' :: bm, [_, _, _, _, some (.builtin n), _] => C' == C && n == "ValueError.__new__" && !cd.hasDel && cd.hasDict && PySem.HandSPX.refsVE bm
    | _, _ => false)
  | _ => false
def xgB (K : PySem.W.Frag) (C : Addr) (fl : Str) (f : Addr) : Bool := xgC K C && (PySem.W.findIn K (.ref C) "__setattr__" == some (some (.builtin "object.__setattr__")) &&
  (PySem.W.findIn K (.ref C) "__getattribute__" == some (some (.builtin "BaseException.__getattribute__")) && (PySem.W.findIn K (.ref C) "__getattr__" == some none && (PySem.W.findIn K (.ref C) fl == some none &&
  (PySem.W.findIn K (.ref C) "__init__" == some (some (.ref f)) && (PySem.W.typeIn K (.ref f) == some (.type "function") && (PySem.W.keepIn K (.ref C) && (PySem.W.subIn K (.ref C) (.type "BaseException") == some true &&
  (PySem.W.typeIn K (.ref C) == some (.type "type") && (PySem.W.hasDictIn K C && PySem.W.exmOne K (.ref C) (.ref C) == some true))))))))))
/-- a class whose instances isinstance asks -/
def exB (K : PySem.W.Frag) (C : Addr) : Bool := PySem.W.findIn K (.ref C) "__getattribute__" == some (some (.builtin "BaseException.__getattribute__")) && (PySem.W.findIn K (.ref C) "__getattr__" == some none &&
  (PySem.W.subIn K (.ref C) (.type "BaseException") == some true && (PySem.W.hasDictIn K C && (PySem.W.findIn K (.ref C) "__class__" == some (some (.builtin "object.__class__")) &&
  (PySem.W.specialIn K (.builtin "object.__class__") "__get__" == some (some (.builtin "getset_descriptor.__get__")) && (PySem.W.takesIn K (.builtin "object.__class__") == some true && PySem.W.mroIn K C (.type "object") == some true))))))
def exE (K : PySem.W.Frag) (es : List DictEntry) (x : Str) : Bool := match lkE es x with
  | some (.ref C) => exB K C
  | _ => false
def kisE (K : PySem.W.Frag) (es : List DictEntry) (p : Str × Str × Bool) : Bool := match lkE es p.1, lkE es p.2.1 with
  | some u, some (.ref C) => PySem.W.kitOne K u (.ref C) == some p.2.2
  | _, _ => false
def kibE (K : PySem.W.Frag) (es : List DictEntry) (p : Str × String × Bool) : Bool := match lkE es p.1 with
  | some u => PySem.W.kitOne K u (.type p.2.1) == some p.2.2
  | _ => false
/-- the __init__ of a class as the heap has it -/
def iniV (K : PySem.W.Frag) (es : List DictEntry) (i : Str × Str × Str × Stmt) : Bool × He.FnV := match lkE es i.1 with
  | some (.ref C) => (match PySem.W.findIn K (.ref C) "__init__" with
    | some (some (.ref f)) => (match K.lookup f with
      | some ⟨_, _, .func fd, _⟩ => (xgB K C i.2.1 f && PySem.W.codeIn K fd.code i.2.2.1, some (fd.name, fd.qualname, fd.params, fd.body, fd.scope, fd.globals, fd.closure, fd.defaults, fd.builtins))
      | _ => (false, none))
    | _ => (false, none))
  | _ => (false, none)
def iniD (i : Str × Str × Str × Stmt) : He.FnV := some (("__init__" : Str), i.2.2.1, defArgs i.2.2.2, .stmts (defBody i.2.2.2), defScope i.2.2.2, mainGlobals, [], .none, builtinsNs)
abbrev HdA : Type := Bool × List (Bool × He.FnV)
def sysB (K : PySem.W.Frag) : Bool := match K.lookup sysModules with
  | some ⟨.type c, _, _, _⟩ => decide (c = "dict")
  | _ => false
def stB : Value → Bool | .str _ _ => true | _ => false
def itB : Value → Bool | .int _ _ => true | _ => false
def boB : Value → Bool | .bool _ => true | _ => false
def reB (P : Addr) : Value → Bool | .ref b => Nat.beq b P | _ => false
/-- the code object at c, whose table is at P -/
def codeB (K : PySem.W.Frag) (c P : Addr) : Bool := match K.lookup c with
  | some ⟨.type k, _, .fields vs, _⟩ => decide (k = "code") && ((match (vs[11]? : Option Value) with | some v => reB P v | none => false) && (reB P (vs.getD 11 .none) && (stB (vs.getD 18 .none) && (itB (vs.getD 7 .none) && (boB (vs.getD 9 .none) && (itB (vs.getD 10 .none) && !Nat.beq c P))))))
  | _ => false
/-- the module of the built-ins -/
def bmB (K : PySem.W.Frag) (P : Addr) : Bool := match PySem.W.nsIn K mainGlobals "__builtins__" with
  | some (some (.ref bm)) => !Nat.beq bm builtinsNs && (!Nat.beq bm mainGlobals && (!Nat.beq bm P && (match K.lookup bm with
    | some ⟨.type m, some d, .plain, _⟩ => decide (m = "module") && Nat.beq d builtinsNs
    | _ => false)))
  | _ => false
def lamB (K : PySem.W.Frag) (x : Str) : Bool := match PySem.W.nsIn K mainGlobals x with
  | some (some (.ref f)) => (match K.lookup f with
    | some ⟨_, _, .func fd, _⟩ => (match fd.code with
      | .ref c => (match tabOf K x with
        | some (P, _) => codeB K c P && (bmB K P && ((K.lookup P).isNone && !Nat.beq mainGlobals P))
        | none => false)
      | _ => false)
    | _ => false)
  | _ => false
def ndB : List Addr → Bool
  | [] => true
  | a :: r => r.all (fun b => !Nat.beq a b) && ndB r
def lamsB (z : Hd) (K : PySem.W.Frag) : Bool := z.lam.isEmpty || (z.lam.all (lamB K) && ndB ((tabsOf K).map (·.1)))
/-- an empty table -/
def tabE : Option Obj → Bool
  | some ⟨.none, none, .fields vs, sl⟩ => vs.toList.isEmpty && sl.toList.isEmpty
  | _ => false
def tabsE (z : Hd) (g : Addr → Option Obj) (K : PySem.W.Frag) : Bool := z.lam.isEmpty || (tabsOf K).all fun p => tabE (g p.1)
def Hd.obsK (z : Hd) (g : Addr → Option Obj) (es : List DictEntry) (K : PySem.W.Frag) : HdA :=
  (!es.any (·.refKey) && (z.free.all (fun x => (lkE es x).isNone) && (z.blt.all (bltB es) && (z.cons.all (conB g es) && (z.tab.all (gtB g es) && (z.cls.all (xcE K es) && (z.prs.all (prE K es) && (z.exs.all (exE K es) && (z.kis.all (kisE K es) && (z.kib.all (kibE K es) && ((!z.sys || sysB K) && (lamsB z K && tabsE z g K))))))))))), (z.defs.map fun d => defV g es d.1) ++ z.ini.map (iniV K es))
def Hd.obsE (z : Hd) (g : Addr → Option Obj) (es : List DictEntry) : HdA := z.obsK g es (He.frG g (sysModules :: clsAs g es (z.cls ++ z.exs) ++ asOf g es))
def Hd.obsG (z : Hd) (g : Addr → Option Obj) : HdA := match g mainGlobals with
  | some ⟨_, _, .dict es _, _⟩ => z.obsE g es.toList
  | _ => (false, [])
def Hd.val (z : Hd) : HdA := (true, (z.defs.map fun d => (true, (hdD d).val)) ++ z.ini.map fun i => (true, iniD i))
/-- a def stands in the module -/
def DefK (K : PySem.W.Frag) (d : Str × Stmt) : Prop := ∃ (f : Addr) (oc : Value) (od : Option Addr) (osl : Array (Option Value)) (kV doc pm : Value) (an : Option Addr) (cdv ct : Value), PySem.W.nsIn K mainGlobals d.1 = some (some (.ref f)) ∧
  K.lookup f = some ⟨oc, od, .func (PySem.W.fnOf d.1 d.1 (defArgs d.2) (defBody d.2) (defScope d.2) .none kV doc pm an cdv ct), osl⟩ ∧ PySem.W.codeIn K cdv d.1 = true
structure Hd.Says (z : Hd) (K : PySem.W.Frag) : Prop where
  d : ∀ d ∈ z.defs, DefK K d
  f : ∀ x ∈ z.free, PySem.W.nsIn K mainGlobals x = some none
  b : ∀ x ∈ z.blt, PySem.W.nsIn K mainGlobals x.1 = some (some (.builtin x.2))
  c : ∀ c ∈ z.cons, ∃ u, PySem.W.nsIn K mainGlobals c.1 = some (some u) ∧ GRep K c.2 u
  g : ∀ c ∈ z.tab, ∃ (a : Addr) (es : Array DictEntry) (n : Nat) (L : List GE), PySem.W.nsIn K mainGlobals c.1 = some (some (.ref a)) ∧ (a == sysModules) = false ∧ K.lookup a = some ⟨.type "dict", none, .dict es n, #[]⟩ ∧
    es.toList = L.map geE ∧ (∀ y ∈ L, GRep K (tI y.1) (.ref y.2.1)) ∧ L.map (fun y => (y.1, y.2.2.1)) = c.2
  x : ∀ x ∈ z.cls, ∃ C, PySem.W.nsIn K mainGlobals x = some (some (.ref C)) ∧ xcB K C = true
  p : ∀ p ∈ z.prs, ∃ u C, PySem.W.nsIn K mainGlobals p.1 = some (some u) ∧ PySem.W.nsIn K mainGlobals p.2 = some (some (.ref C)) ∧ PySem.W.exmOne K u (.ref C) = some true
  i : ∀ i ∈ z.ini, ∃ (C f : Addr) (oc : Value) (od : Option Addr) (osl : Array (Option Value)) (kV doc pm : Value) (an : Option Addr) (cdv ct : Value), PySem.W.nsIn K mainGlobals i.1 = some (some (.ref C)) ∧ xgB K C i.2.1 f = true ∧
    K.lookup f = some ⟨oc, od, .func (PySem.W.fnOf "__init__" i.2.2.1 (defArgs i.2.2.2) (defBody i.2.2.2) (defScope i.2.2.2) .none kV doc pm an cdv ct), osl⟩ ∧ PySem.W.codeIn K cdv i.2.2.1 = true
  e : ∀ x ∈ z.exs, ∃ C, PySem.W.nsIn K mainGlobals x = some (some (.ref C)) ∧ exB K C = true
  ki : ∀ p ∈ z.kis, ∃ u C, PySem.W.nsIn K mainGlobals p.1 = some (some u) ∧ PySem.W.nsIn K mainGlobals p.2.1 = some (some (.ref C)) ∧ PySem.W.kitOne K u (.ref C) = some p.2.2
  sy : z.sys = true → ∃ o, K.lookup sysModules = some o ∧ o.cls = .type "dict"
  lm : lamsB z K = true
  kb : ∀ p ∈ z.kib, ∃ u, PySem.W.nsIn K mainGlobals p.1 = some (some u) ∧ PySem.W.kitOne K u (.type p.2.1) = some p.2.2
theorem frG_has {g : Addr → Option Obj} {a : Addr} {o : Obj} (h : g a = some o) : ∀ {as : List Addr}, a ∈ as → (He.frG g as).lookup a = some o
  | [], q => nomatch q
  | b :: r, q => by
    unfold He.frG
    rw [List.filterMap_cons]
    by_cases e : a = b
    · subst e
      rw [h]
      show List.lookup a ((a, o) :: _) = some o
      rw [List.lookup_cons]
      simp
    · have q2 : a ∈ r := (List.mem_cons.mp q).resolve_left e
      have ih := frG_has h q2
      cases gb : g b with
      | none => exact ih
      | some ob =>
        show List.lookup a ((b, ob) :: _) = some o
        rw [List.lookup_cons]
        have nb : (a == b) = false := by simpa using e
        rw [nb]
        exact ih
theorem map_same {α β : Type} {f g : α → β} : ∀ {l : List α}, l.map f = l.map g → ∀ x ∈ l, f x = g x
  | [], _, _, h => nomatch h
  | y :: r, e, x, h => by
    rw [List.map_cons, List.map_cons, List.cons.injEq] at e
    rcases List.mem_cons.mp h with rfl | h
    · exact e.1
    · exact map_same e.2 x h
theorem Hd.of_obs {z : Hd} {g : Addr → Option Obj} (e : z.obsG g = z.val) : ∃ as : List Addr, z.Says (He.frG g as) ∧ tabsE z g (He.frG g as) = true := by
  unfold Hd.obsG at e
  split at e
  · rename_i oc od es en osl hm
    refine ⟨sysModules :: clsAs g es.toList (z.cls ++ z.exs) ++ asOf g es.toList, ?_⟩
    unfold Hd.obsE Hd.val at e
    generalize hK : He.frG g (sysModules :: clsAs g es.toList (z.cls ++ z.exs) ++ asOf g es.toList) = K at e ⊢
    unfold Hd.obsK at e
    have has : ∀ {a : Addr} {o : Obj}, a ∈ asOf g es.toList → g a = some o → K.lookup a = some o := fun h q => by rw [← hK]; exact frG_has q (List.mem_append_right _ h)
    have lm : K.lookup mainGlobals = some ⟨oc, od, .dict es en, osl⟩ := has (List.mem_cons_self) hm
    obtain ⟨e1, e2⟩ := Prod.mk.inj e
    obtain ⟨e2, e4⟩ := List.append_inj e2 (by simp)
    simp only [Bool.and_eq_true, Bool.not_eq_true'] at e1
    obtain ⟨r1, r2, r3, r4, rg, r5, r6, r7, r8, r9, r10, r11, r12⟩ := e1
    have ns : ∀ x : Str, PySem.W.nsIn K mainGlobals x = some (lkE es.toList x) := fun x => by
      unfold PySem.W.nsIn lkE
      rw [lm]
      simp only
      cases q : es.toList.find? (·.key.isStr x) with
      | some v => rfl
      | none =>
        simp only
        rw [r1]
        rfl
    have inE : ∀ {x : Str} {u : Value}, lkE es.toList x = some u → ∃ en ∈ es.toList, en.val = u := fun {x u} h => by
      unfold lkE at h
      obtain ⟨en, h1, h2⟩ := Option.map_eq_some_iff.mp h
      exact ⟨en, List.mem_of_find?_eq_some h1, h2⟩
    refine ⟨⟨fun d hd => ?_, fun x hx => ?_, fun x hx => ?_, fun c hc => ?_, fun c hc => ?_, fun x hx => ?_, fun p hp => ?_, fun i hi => ?_, fun x hx => ?_, fun p hp => ?_, fun hs => ?_, r11, fun p hp => ?_⟩, r12⟩
    · have e3 := map_same e2 d hd
      unfold defV at e3
      split at e3
      · rename_i f hf
        obtain ⟨en, me, ev⟩ := inE hf
        split at e3
        · rename_i oc2 od2 fd osl2 gf
          obtain ⟨n1, n2, n3, n4, n5, n6, n7, n8, n9, n10, n11, n12, n13, n14, n15⟩ := fd
          obtain ⟨c1, c2⟩ := Prod.mk.inj e3
          have c3 : (some (n1, n2, n3, n4, n5, n6, n7, n8, n15) : He.FnV) = some (d.1, d.1, defArgs d.2, .stmts (defBody d.2), defScope d.2, mainGlobals, [], .none, builtinsNs) := c2
          simp only [Option.some.injEq, Prod.mk.injEq] at c3
          obtain ⟨h1, h2, h3, h4, h5, h6, h7, h8, h9⟩ := c3
          subst h1 h2 h3 h4 h5 h6 h7 h8 h9
          have mf : f ∈ asOf g es.toList := List.mem_cons_of_mem _ (List.mem_flatMap.mpr ⟨en, me, by rw [ev]; simp [adV]⟩)
          refine ⟨f, oc2, od2, osl2, n9, n10, n11, n12, n13, n14, by rw [ns, hf], has mf gf, ?_⟩
          have c4 : codB g n13 d.1 = true := c1
          unfold codB at c4
          unfold PySem.W.codeIn
          cases n13 with
          | ref c =>
            simp only at c4 ⊢
            have mc : c ∈ asOf g es.toList := List.mem_cons_of_mem _ (List.mem_flatMap.mpr ⟨en, me, by rw [ev]; simp [adV, gf]⟩)
            cases gc : g c with
            | none => rw [gc] at c4; cases c4
            | some o =>
              rw [gc] at c4
              rw [has mc gc]
              exact c4
          | _ => cases c4
        · exact absurd (Prod.mk.inj e3).1 (by decide)
      · exact absurd (Prod.mk.inj e3).1 (by decide)
    · have q := List.all_eq_true.mp r2 x hx
      rw [ns, Option.isNone_iff_eq_none.mp q]
    · have q := List.all_eq_true.mp r3 x hx
      unfold bltB at q
      split at q
      · rename_i m hm2
        rw [ns, hm2, of_decide_eq_true q]
      · cases q
    · have q := List.all_eq_true.mp r4 c hc
      unfold conB at q
      split at q
      · rename_i u hu
        obtain ⟨en, me, ev⟩ := inE hu
        refine ⟨u, by rw [ns, hu], repB_ok (g := g) (fun a ha o ho => has (List.mem_cons_of_mem _ (List.mem_flatMap.mpr ⟨en, me, by rw [ev]; exact List.mem_append.mpr (.inr (List.mem_append.mpr (.inl ha)))⟩)) ho) q⟩
      · cases q
    · have q := List.all_eq_true.mp rg c hc
      unfold gtB at q
      split at q
      · rename_i a hu
        obtain ⟨en, me, ev⟩ := inE hu
        rw [Bool.and_eq_true] at q
        obtain ⟨q1, q2⟩ := q
        split at q2
        · rename_i t es2 m sl ga
          simp only [Bool.and_eq_true, decide_eq_true_eq, List.isEmpty_iff] at q2
          obtain ⟨a1, a2, a3, a4⟩ := q2
          subst a1
          obtain ⟨sl⟩ := sl
          simp only at a2
          subst a2
          have ma : a ∈ asOf g es.toList := List.mem_cons_of_mem _ (List.mem_flatMap.mpr ⟨en, me, by rw [ev]; simp [adV]⟩)
          obtain ⟨L, h1, h2, h3⟩ := entB_l (K := K) (fun e he b hb o ho => has (List.mem_cons_of_mem _ (List.mem_flatMap.mpr ⟨en, me, by
            rw [ev]
            refine List.mem_append.mpr (.inr (List.mem_append.mpr (.inr (List.mem_flatMap.mpr ⟨a, List.mem_cons_self, ?_⟩))))
            unfold keyAs
            rw [ga]
            exact List.mem_flatMap.mpr ⟨e, he, hb⟩⟩)) ho) (Nat.eq_of_beq_eq_true a3) a4
          exact ⟨a, es2, m, L, by rw [ns, hu], by simpa using q1, has ma ga, h1, h2, h3⟩
        · cases q2
      · cases q
    · have q := List.all_eq_true.mp r5 x hx
      unfold xcE at q
      split at q
      · rename_i C hC
        exact ⟨C, by rw [ns, hC], q⟩
      · cases q
    · have q := List.all_eq_true.mp r6 p hp
      unfold prE at q
      split at q
      · rename_i u C h1 h2
        exact ⟨u, C, by rw [ns, h1], by rw [ns, h2], beq_iff_eq.mp q⟩
      · cases q
    · have e3 := map_same e4 i hi
      unfold iniV at e3
      split at e3
      · rename_i C hC
        split at e3
        · rename_i f hf
          split at e3
          · rename_i oc2 od2 fd osl2 gf
            obtain ⟨n1, n2, n3, n4, n5, n6, n7, n8, n9, n10, n11, n12, n13, n14, n15⟩ := fd
            obtain ⟨c1, c2⟩ := Prod.mk.inj e3
            have c3 : (some (n1, n2, n3, n4, n5, n6, n7, n8, n15) : He.FnV) = some (("__init__" : Str), i.2.2.1, defArgs i.2.2.2, .stmts (defBody i.2.2.2), defScope i.2.2.2, mainGlobals, [], .none, builtinsNs) := c2
            simp only [Option.some.injEq, Prod.mk.injEq] at c3
            obtain ⟨h1, h2, h3, h4, h5, h6, h7, h8, h9⟩ := c3
            subst h1 h2 h3 h4 h5 h6 h7 h8 h9
            rw [Bool.and_eq_true] at c1
            exact ⟨C, f, oc2, od2, osl2, n9, n10, n11, n12, n13, n14, by rw [ns, hC], c1.1, gf, c1.2⟩
          · exact absurd (Prod.mk.inj e3).1 (by decide)
        · exact absurd (Prod.mk.inj e3).1 (by decide)
      · exact absurd (Prod.mk.inj e3).1 (by decide)
    · have q := List.all_eq_true.mp r7 x hx
      unfold exE at q
      split at q
      · rename_i C hC
        exact ⟨C, by rw [ns, hC], q⟩
      · cases q
    · have q := List.all_eq_true.mp r8 p hp
      unfold kisE at q
      split at q
      · rename_i u C h1 h2
        exact ⟨u, C, by rw [ns, h1], by rw [ns, h2], beq_iff_eq.mp q⟩
      · cases q
    · rw [hs, Bool.not_true, Bool.false_or] at r10
      unfold sysB at r10
      split at r10
      · rename_i c _ _ _ hk
        exact ⟨_, hk, by rw [of_decide_eq_true r10]⟩
      · cases r10
    · have q := List.all_eq_true.mp r9 p hp
      unfold kibE at q
      split at q
      · rename_i u h1
        exact ⟨u, by rw [ns, h1], beq_iff_eq.mp q⟩
      · cases q
  · exact absurd (Prod.mk.inj e).1 (by decide)
theorem tabE_eq {o : Option Obj} (h : tabE o = true) : o = some { cls := .none, data := .fields #[] } := by
  unfold tabE at h
  split at h
  · rename_i vs sl
    simp only [Bool.and_eq_true, List.isEmpty_iff] at h
    obtain ⟨l1⟩ := vs
    obtain ⟨l2⟩ := sl
    obtain ⟨rfl, rfl⟩ := h
    rfl
  · cases h
theorem tabsE_at {z : Hd} {g : Addr → Option Obj} {K : PySem.W.Frag} (h : tabsE z g K = true) : z.lam = [] ∨ ∀ p ∈ tabsOf K, g p.1 = some { cls := .none, data := .fields #[] } := by
  unfold tabsE at h
  rw [Bool.or_eq_true] at h
  rcases h with h | h
  · exact .inl (List.isEmpty_iff.mp h)
  · exact .inr fun p hp => tabE_eq (List.all_eq_true.mp h p hp)
def Hd.hook (z : Hd) : PySem.W.Hook where
  α := HdA
  obs := fun s => z.obsG s.heap.get?
  val := fun _ => z.val
  says := fun _ h => ∃ K : PySem.W.Frag, K.In h ∧ z.Says K ∧ (z.lam = [] ∨ ∀ p ∈ tabsOf K, h.get? p.1 = some { cls := .none, data := .fields #[] })
  of := fun _ _ e => let ⟨_, c, t⟩ := Hd.of_obs e; ⟨_, He.frG_in, c, tabsE_at t⟩
  keeps := fun _ _ _ ⟨K, hK, c, t⟩ k => ⟨K, PySem.W.Frag.In.keeps hK k, c, t.imp id fun q p hp => k _ _ (q p hp)⟩
theorem Hd.obs_eq {z : Hd} {g : Addr → Option Obj} {s : Shared} (h : ∀ a, g a = s.heap.get? a) : z.obsG g = z.hook.obs s := by
  have e : g = s.heap.get? := funext h
  rw [e] <;> rfl
section
variable {z : Hd} {K : PySem.W.Frag} {h : Heap} {mg : Str → Option Value}
theorem Hd.Says.df (X : K.In h) (G : h.Ns mainGlobals mg) (c : z.Says K) (i : Nat) {x : Str} {st : Stmt} (e : z.defs[i]? = some (x, st) := by rfl) : Df K mg x st := by
  obtain ⟨f, oc, od, osl, kV, doc, pm, an, cdv, ct, h1, l, cd⟩ := c.d _ (List.mem_of_getElem? e)
  exact ⟨_, _, fun_mk (st := st) l cd (by unfold PySem.W.keepIn; simp only at l ⊢; rw [l]), PySem.W.mg_of X G h1⟩
theorem Hd.Says.fr (X : K.In h) (G : h.Ns mainGlobals mg) (c : z.Says K) (i : Nat) {x : Str} (e : z.free[i]? = some x := by rfl) : mg x = none :=
  PySem.W.mg_none_of X G (c.f _ (List.mem_of_getElem? e))
theorem Hd.Says.bf (X : K.In h) (G : h.Ns mainGlobals mg) (c : z.Says K) (i : Nat) {x : Str} {m : String} (e : z.blt[i]? = some (x, m) := by rfl) : mg x = some (.builtin m) :=
  PySem.W.mg_of X G (c.b _ (List.mem_of_getElem? e))
theorem Hd.Says.gt (X : K.In h) (G : h.Ns mainGlobals mg) (c : z.Says K) (i : Nat) {x : Str} {kvs : List (List Int × Int)} (e : z.tab[i]? = some (x, kvs) := by rfl) (nd : (kvs.map (·.1)).Nodup := by decide) : GT K mg x kvs := by
  obtain ⟨a, es, n, L, h1, h2, h3, h4, h5, h6⟩ := c.g _ (List.mem_of_getElem? e)
  refine ⟨a, es, n, L, PySem.W.mg_of X G h1, h2, h3, h4, h5, ?_, h6⟩
  have e2 : kvs.map (·.1) = L.map (·.1) := by rw [← (show L.map (fun y => (y.1, y.2.2.1)) = kvs from h6), List.map_map]; rfl
  rw [← e2]; exact nd
theorem Hd.Says.gc (X : K.In h) (G : h.Ns mainGlobals mg) (c : z.Says K) (i : Nat) {x : Str} {d : D} (e : z.cons[i]? = some (x, d) := by rfl) : GC K mg x d := by
  obtain ⟨u, h1, h2⟩ := c.c _ (List.mem_of_getElem? e)
  exact gc_of X G h1 h2
end
/-- what is known of a def x that makes lambdas, its code object being cdv -/
def LamAt (K : PySem.W.Frag) (mg : Str → Option Value) (x : Str) (cdv : Value) : Prop := ∃ c P, cdv = .ref c ∧ (P, x ++ ".<locals>." ++ "<lambda>") ∈ tabsOf K ∧ (∀ p ∈ tabsOf K, p.1 = P → p.2 = x ++ ".<locals>." ++ "<lambda>") ∧ ∀ base : Heap, K.In base → LamX.TabB base mg c P
theorem ndB_uniq {α : Type} : ∀ {l : List (Addr × α)}, ndB (l.map (·.1)) = true → ∀ {a : Addr} {u v : α}, (a, u) ∈ l → (a, v) ∈ l → u = v
  | [], _, _, _, _, h, _ => nomatch h
  | p :: r, e, a, u, v, h1, h2 => by
    rw [List.map_cons] at e
    unfold ndB at e
    rw [Bool.and_eq_true] at e
    have no : ∀ w, (p.1, w) ∉ r := fun w hw => by
      have q := List.all_eq_true.mp e.1 p.1 (List.mem_map.mpr ⟨_, hw, rfl⟩)
      simp at q
    rcases List.mem_cons.mp h1 with q1 | q1
    · rcases List.mem_cons.mp h2 with q2 | q2
      · rw [← q1] at q2; cases q2; rfl
      · rw [← q1] at no; exact absurd q2 (no v)
    · rcases List.mem_cons.mp h2 with q2 | q2
      · rw [← q2] at no; exact absurd q1 (no u)
      · exact ndB_uniq e.2 q1 q2
theorem reB_eq {P : Addr} {v : Value} (h : reB P v = true) : v = .ref P := by
  unfold reB at h
  split at h
  · rw [Nat.eq_of_beq_eq_true h]
  · cases h
theorem codeB_hd {K : PySem.W.Frag} {c P : Addr} (h : codeB K c P = true) {base : Heap} (hK : K.In base) : PySem.W.CodeHd base c P := by
  unfold codeB at h
  split at h
  · rename_i k od vs sl e
    simp only [Bool.and_eq_true, Bool.not_eq_true', decide_eq_true_eq] at h
    obtain ⟨e0, e1, e2, e3, e4, e5, e6, e7⟩ := h
    subst e0
    have q18 : ∃ z t, vs.getD 18 .none = .str z t := by
      unfold stB at e3
      split at e3
      · rename_i z t q; exact ⟨z, t, q⟩
      · cases e3
    have q7 : ∃ z t, vs.getD 7 .none = .int z t := by
      unfold itB at e4
      split at e4
      · rename_i z t q; exact ⟨z, t, q⟩
      · cases e4
    have q9 : ∃ z, vs.getD 9 .none = .bool z := by
      unfold boB at e5
      split at e5
      · rename_i z q; exact ⟨z, q⟩
      · cases e5
    have q10 : ∃ z t, vs.getD 10 .none = .int z t := by
      unfold itB at e6
      split at e6
      · rename_i z t q; exact ⟨z, t, q⟩
      · cases e6
    obtain ⟨z18, t18, q18⟩ := q18
    obtain ⟨z7, t7, q7⟩ := q7
    obtain ⟨z9, q9⟩ := q9
    obtain ⟨z10, t10, q10⟩ := q10
    refine ⟨_, vs, z18, t18, z7, t7, z9, z10, t10, hK _ _ e, rfl, rfl, ?_, reB_eq e2, q18, q7, q9, q10, fun z => ?_⟩
    · split at e1
      · rename_i v q; rw [q, reB_eq e1]
      · cases e1
    · rw [z] at e7; simp at e7
  · cases h
theorem bmB_at {K : PySem.W.Frag} {P : Addr} (h : bmB K P = true) {h0 : Heap} {mg : Str → Option Value} (X : K.In h0) (G : h0.Ns mainGlobals mg) {base : Heap} (hK : K.In base) : base.BuiltinsAt mg P := by
  unfold bmB at h
  split at h
  · rename_i bm e
    simp only [Bool.and_eq_true, Bool.not_eq_true'] at h
    obtain ⟨e1, e2, e3, e4⟩ := h
    have ne : ∀ {a b : Addr}, Nat.beq a b = false → a ≠ b := fun q z => by rw [z] at q; simp at q
    split at e4
    · rename_i m d sl q
      simp only [Bool.and_eq_true, decide_eq_true_eq] at e4
      obtain ⟨f1, f2⟩ := e4
      subst f1
      have f2 := Nat.eq_of_beq_eq_true f2
      subst f2
      exact ⟨bm, _, PySem.W.mg_of X G e, ne e1, ne e2, ne e3, hK _ _ q, rfl, rfl, rfl⟩
    · cases e4
  · cases h
theorem tabOf_q {K : PySem.W.Frag} {x q : Str} {P : Addr} (h : tabOf K x = some (P, q)) : q = x ++ ".<locals>." ++ "<lambda>" := by
  unfold tabOf at h
  repeat' (split at h)
  all_goals (cases h)
  rfl
theorem Hd.Says.lam {z : Hd} {K : PySem.W.Frag} {h : Heap} {mg : Str → Option Value} (X : K.In h) (G : h.Ns mainGlobals mg) (c : z.Says K) {x : Str} (hx : x ∈ z.lam) (hl : x ∈ lamNames) {f : Addr} {cdv : Value} (hq : CdAt K mg x f cdv) : LamAt K mg x cdv := by
  have l := c.lm
  unfold lamsB at l
  rw [Bool.or_eq_true] at l
  rcases l with l | l
  · rw [List.isEmpty_iff] at l
    rw [l] at hx
    cases hx
  rw [Bool.and_eq_true] at l
  have l1 := List.all_eq_true.mp l.1 x hx
  obtain ⟨hm, oc, od, fd, osl, lk, ecd⟩ := hq
  unfold lamB at l1
  split at l1
  · rename_i f' e
    have e' := PySem.W.mg_of X G e
    cases hm.symm.trans e'
    rw [lk] at l1
    simp only at l1
    rw [ecd] at l1
    split at l1
    · rename_i cc
      split at l1
      · rename_i P q et
        obtain rfl := tabOf_q et
        simp only [Bool.and_eq_true, Bool.not_eq_true'] at l1
        obtain ⟨a1, a2, a3, a4⟩ := l1
        have mem : (P, x ++ ".<locals>." ++ "<lambda>") ∈ tabsOf K := List.mem_filterMap.mpr ⟨x, hl, et⟩
        refine ⟨cc, P, rfl, mem, fun p hp ep => ?_, fun base hK => ⟨codeB_hd a1 hK, bmB_at a2 X G hK, fun z => by rw [z] at a4; simp at a4⟩⟩
        obtain ⟨p1, p2⟩ := p
        cases ep
        exact ndB_uniq l.2 hp mem
      · cases l1
    · cases l1
  · cases l1
theorem lam_none {z : Hd} {K : PySem.W.Frag} (c : z.Says K) (hz : lamNames = z.lam) {p : Addr × Str} (hp : p ∈ tabsOf K) : K.lookup p.1 = none ∧ ∃ c, codeB K c p.1 = true := by
  obtain ⟨x, hx, e⟩ := List.mem_filterMap.mp hp
  have l := c.lm
  unfold lamsB at l
  rw [Bool.or_eq_true] at l
  rcases l with l | l
  · rw [List.isEmpty_iff] at l
    rw [hz, l] at hx
    cases hx
  rw [Bool.and_eq_true] at l
  have l1 := List.all_eq_true.mp l.1 x (hz ▸ hx)
  unfold lamB at l1
  repeat' (split at l1)
  all_goals (try cases l1)
  rename_i P q et
  cases e.symm.trans et
  simp only [Bool.and_eq_true] at l1
  exact ⟨Option.isNone_iff_eq_none.mp l1.2.2.1, _, l1.1⟩
theorem g_walkE {l : PySem.W.OpenLaw} {n k : Nat} {q : Program} {loose : List Str} {XP : (Str → Option Value) → Heap → Prop} {YP : World → Heap → Prop} {d : DefRec} {x y : Str} {sem : Sem} (z : Hd) (hz : lamNames = z.lam) (hn : l.most = some n) (hn2 : n ≤ sizeLine) (hdf : d.params.defaults = [])
    (hr : Room k callerA) (hx : d.name = x)
    (F : ∀ (w : World) (mg : Str → Option Value) (h : Heap), YP w h → h.Ns mainGlobals mg → ∃ K : PySem.W.Frag, K.In h ∧ z.Says K ∧ (z.lam = [] ∨ ∀ p ∈ tabsOf K, h.get? p.1 = some { cls := .none, data := .fields #[] }) ∧ ∀ base : Heap, K.In base → base.Ns mainGlobals mg → Ok l.prog w K mg base k x [y] sem)
    (hs : ∀ ns : List Int, ns.length ≤ n → sem [.val (scrD ns)] [] fun r _ => r = .bl true) : PySem.W.WalkO q loose XP YP l.row.toRowW d [] (fun f vs => PySem.call f vs) := by
  refine Att.attach_call hn hdf fun w s0 s1 mg mb fa o pm cd doc a vs ns G Y ho hd hcd hmg hobj hints hlen hg => ?_
  obtain ⟨K, KX, c, hte, hF⟩ := F w mg _ Y G.T.g
  subst hx
  obtain ⟨f, fd, h1, h2, h3, h4, h5, oc, od, osl, lk⟩ := hF _ KX G.T.g
  cases hmg.symm.trans h1
  have nT : ∀ p ∈ tabsOf K, K.lookup p.1 = none := fun p hp => (lam_none c hz hp).1
  refine g_lawT (x := y) (fd := fd) (sp := spD K 1 sem) (CX := CX0) (ts := (tabsOf K).map (·.1)) KX G.T.g G.T.b G.T.builtins G.T.nolimit hg (fun b hb => ?_) (fun b hb => ?_) hobj hints (Nat.le_trans hlen hn2) hr (fun base h h' => ?_) (fun u => ?_) (fun H hO hH hS => ?_) fun H e s' z => z
  · obtain ⟨p, hp, rfl⟩ := List.mem_map.mp hb
    obtain ⟨_, c2, hc⟩ := lam_none c hz hp
    rcases hte with hte | hte
    · obtain ⟨e, he, _⟩ := List.mem_filterMap.mp hp
      rw [hz, hte] at he
      cases he
    · exact ⟨c2, (codeB_hd hc KX).tab (hte p hp)⟩
  · obtain ⟨p, hp, rfl⟩ := List.mem_map.mp hb
    exact nT p hp
  · obtain ⟨f2, fd2, k1, k2, k3, k4, k5, oc2, od2, osl2, lk2⟩ := hF base h h'
    cases hmg.symm.trans k1
    rw [lk] at lk2
    cases lk2
    exact k5
  · exact h3 s1 [u] KX rfl
  · let F0 : Hp := fun b => if b ∈ (tabsOf K).map (·.1) then none else H b
    have f1 : ∀ {b : Addr}, b ∈ (tabsOf K).map (·.1) → F0 b = none := fun {b} q => if_pos q
    have f2 : ∀ {b : Addr}, b ∉ (tabsOf K).map (·.1) → F0 b = H b := fun {b} q => if_neg q
    have sub : Same F0 H := fun b u e => by
      by_cases q : b ∈ (tabsOf K).map (·.1)
      · cases (f1 q).symm.trans e
      · exact (f2 q).symm.trans e
    have nl : ∀ {b : Addr} {o : HO}, H b = some o → noTb o → F0 b = some o := fun {b o} e n => by
      rw [f2 (fun q => n _ (Option.some.inj (e.symm.trans (hH b q))))]
      exact e
    have hS' : SqL K F0 a (ns.map V.int) := by
      rcases hS with (e | ⟨ob, e⟩) | e
      · left; left; exact nl e (fun _ z => nomatch z)
      · left; right; exact ⟨ob, nl e (fun _ z => nomatch z)⟩
      · right; exact e
    refine ⟨rfl, F0, none, [], [.val (scrD ns)], _, .val (.scr hS' (scr_rep ns)) .nil, ⟨sub, fun _ z => (nomatch z), ⟨fun p hp => f1 (List.mem_map.mpr ⟨p, hp, rfl⟩), fun p hp => LamX.TabS.nil (hH p.1 (List.mem_map.mpr ⟨p, hp, rfl⟩)), fun b o e => ?_, fun b ps e => ?_⟩⟩, hs ns hlen, fun v H' F' d T' _ _ r q => by subst q; cases r; rfl⟩
    · rcases hO b with z | z | ⟨ob, xs, z⟩
      · cases z.symm.trans (sub b o e)
      · cases (f1 z).symm.trans e
      · cases z.symm.trans (sub b o e)
        exact fun _ z => nomatch z
    · rcases hO b with z | z | ⟨ob, xs, z⟩
      · cases z.symm.trans e
      · obtain ⟨p, hp, rfl⟩ := List.mem_map.mp z
        exact ⟨p.2, hp⟩
      · cases z.symm.trans e
end L2.G

namespace L2.G
open PySem PySem.Spec PyProof.Rows
/-! sorted(set(xs)), xs a list of tuples of ints of either sign -/
def TupH (h : Heap) (p : Addr × List Int) : Prop := ∃ o xs n, h.get? p.1 = some o ∧ o.cls = .type "tuple" ∧ o.data = .seq xs n ∧ Vals (p.2.map V.int) xs.toList
theorem TupH.keep {h h' : Heap} {p : Addr × List Int} (k : ∀ b o, h.get? b = some o → h'.get? b = some o) : TupH h p → TupH h' p :=
  fun ⟨o, xs, n, g, r⟩ => ⟨o, xs, n, k _ _ g, r⟩
theorem TupH.first {h : Heap} : ∀ (L : List (Addr × List Int)), (∀ p ∈ L, TupH h p ∧ p.2 ≠ []) → ∃ fs, PyProof.Rows.TupsOf h noS (L.map fun p => Value.ref p.1) fs
  | [], _ => ⟨[], .nil⟩
  | p :: L, q => by
    obtain ⟨fs, ih⟩ := TupH.first L fun r hr => q r (List.mem_cons_of_mem _ hr)
    obtain ⟨⟨o, xs, n, g, c, d, v⟩, h2⟩ := q p List.mem_cons_self
    obtain ⟨m, r, er⟩ := List.exists_cons_of_ne_nil h2
    rw [er] at v
    obtain ⟨u, us, ex⟩ : ∃ u us, xs.toList = u :: us := by
      cases z : xs.toList with
      | nil => rw [z] at v; cases v
      | cons u us => exact ⟨u, us, rfl⟩
    rw [ex] at v
    have hu : ∃ t, u = .int m t := by
      cases v with
      | cons r _ => exact r
    obtain ⟨t, rfl⟩ := hu
    have g0 : xs[0]? = some (.int m t) := by rw [← Array.getElem?_toList, ex]; rfl
    exact ⟨_, .cons ⟨p.1, o, xs, n, rfl, g, c, d, g0, fun _ => ⟨m, t, rfl⟩, fun z => nomatch z⟩ ih⟩
section
variable {X : Cx} {e : Expr} {fr : dA} {p p2 pos pos2 : Pos} {es : List Expr}
end
/-! less than, for ints and for tuples of ints -/
def ltR : Option (List Int) → Option (List Int) → PD | some a, some b => some (True, .bl (HT.lexLt a b)) | _, _ => none
def fLtU : D → D → PD
  | .int i, .int j => some (True, .bl (decide (i < j)))
  | .tup xs, .tup ys => ltR (nums? xs) (nums? ys)
  | _, _ => none
def rLtU (K : PySem.W.Frag) : R2 := fun x y H Q => rI0 (fun i j => .bl (decide (i < j))) x y H Q ∨ rLtT K x y H Q
theorem op_ltU {X : Cx} (hu : X.A.units < cLine) : OpR X (compareOp .Lt) (rLtU X.K) := by
  intro pins s σ H x y v u Q I rx ry h
  rcases h with h | h
  · exact op_lt pins s σ H x y v u Q I rx ry h
  · exact op_ltT hu pins s σ H x y v u Q I rx ry h
theorem fLtU_ok {K : PySem.W.Frag} : OpS K (rLtU K) (oF fLtU) := by
  intro t F H T x y v w k Q wt r1 r2 q f
  cases x with
  | int i =>
    cases y with
    | int j =>
      cases r1
      cases r2
      exact .inl ⟨_, _, rfl, rfl, f.val wt (.bl _) q.2⟩
    | _ => exact q.elim
  | tup xs =>
    cases y with
    | tup ys =>
      obtain ⟨a, ws, rfl, h1, e1⟩ := rep_tup r1
      obtain ⟨b, us, rfl, h2, e2⟩ := rep_tup r2
      have q1 : match ltR (nums? xs) (nums? ys) with | some p => p.1 ∧ (fun d => k d T) p.2 | none => False := q
      cases m1 : nums? xs with
      | none => rw [m1] at q1; exact q1.elim
      | some ns =>
        cases m2 : nums? ys with
        | none => rw [m1, m2] at q1; exact q1.elim
        | some ms =>
          rw [m1, m2] at q1
          rw [nums_some m1] at e1
          rw [nums_some m2] at e2
          have z1 := nums_inv e1
          have z2 := nums_inv e2
          subst z1 z2
          exact .inr ⟨a, b, ns, ms, rfl, rfl, same_t wt.sub h1, same_t wt.sub h2, f.val wt (.bl _) q1.2⟩
    | _ => exact q.elim
  | _ => exact q.elim
section
variable {X : Cx} {a b : Expr} {fa fb : dE} {pos : Pos}
theorem t_fltU (hu : X.A.units < cLine) (ha : PEd X a fa) (hb : PEd X b fb) : PTd X (.Compare a [.Lt] [b] pos) (dTst (dOp (oF fLtU) fa fb)) := d_tcmp (op_ltU hu) fLtU_ok ha hb (nomark _)
end
theorem lt_units {A : Around} (h : A.units + 66 < cLine) : A.units < cLine := by omega
end L2.G

namespace L2.G
open PySem PySem.Spec PyProof.Rows
/-! {"a": 1, ..}[x]: a displayed dict of texts to ints, and what stands at x -/
end L2.G

namespace L2.G
open PySem PySem.Spec PyProof.Rows
/-! defs that may raise: a def's reading takes r, what is wished of an exception -/
/-- an exception: the name of its class, what it was given -/
structure ExD where
  nm : Str
  arg : Option (Str × D)
abbrev RK := ExD → Tk → Prop
/-- in a body: with the slots -/
abbrev RX := ExD → En → Tk → Prop
def RepE (K : PySem.W.Frag) (mg : Str → Option Value) (F H : Hp) (e : ExD) (cls : Value) (d : Option Addr) : Prop :=
  mg e.nm = some cls ∧ match e.arg with
    | none => d = none
    | some (fl, x) => ∃ dd v, d = some dd ∧ H dd = some (.xd [(fl, v)]) ∧ Rep K F x v
def FinX (K : PySem.W.Frag) (mg : Str → Option Value) (t : Option Addr) (F H : Hp) (r : RK) (E : XK) : Prop := ∀ e T' F' H' cls d, Wt K T' t F' H' → Grow t F H F' H' → RepE K mg F' H' e cls d → r e T' → E cls d H'
abbrev SemX := RK → Sem
def spX (K : PySem.W.Frag) (mg : Str → Option Value) (n : Nat) (sem : SemX) : Sp := fun vs H Q E => vs.length = n ∧ ∃ F t T as k r, ArgL K t F as vs ∧ Wt K T t F H ∧ sem r as T k ∧ Fin K t F H k Q ∧ FinX K mg t F H r E
def OkX (P : Program) (w : World) (K : PySem.W.Frag) (mg : Str → Option Value) (base : Heap) (n : Nat) (x : Str) (ps : List Str) (sem : SemX) : Prop :=
  ∃ f fd, mg x = some (.ref f) ∧ PySem.W.keepIn K (.ref f) = true ∧ Binds K fd ps [] ∧ (∀ (s : Shared) (ws : List Value), K.In s.heap → ws.length = ps.length → BindsTo s fd ⟨[], ps.zip ws⟩ (ps.zip ws)) ∧ GFn P w K mg base (L2.CX P w) n f fd ps (spX K mg ps.length sem) ∧ ∃ oc od osl, K.lookup f = some ⟨oc, od, .func fd, osl⟩
theorem OkX.mono {P : Program} {w : World} {K : PySem.W.Frag} {mg : Str → Option Value} {base : Heap} {m n : Nat} {x : Str} {ps : List Str} {sem : SemX} (h : OkX P w K mg base m x ps sem) (l : m ≤ n) : OkX P w K mg base n x ps sem :=
  let ⟨f, fd, h1, h2, h3, h4, h5, h6⟩ := h; ⟨f, fd, h1, h2, h3, h4, h5.mono l, h6⟩
theorem OkX.imp {P : Program} {w : World} {K : PySem.W.Frag} {mg : Str → Option Value} {base : Heap} {n : Nat} {x : Str} {ps : List Str} {sem sem' : SemX} (h : OkX P w K mg base n x ps sem) (i : ∀ r as T k, sem' r as T k → sem r as T k) : OkX P w K mg base n x ps sem' :=
  let ⟨f, fd, h1, h2, h3, h4, h5, h6⟩ := h; ⟨f, fd, h1, h2, h3, h4, h5.imp (fun vs H Q E ⟨q1, F, t, T, as, k, r, a, b, c, d, e⟩ => ⟨q1, F, t, T, as, k, r, a, b, i _ _ _ _ c, d, e⟩), h6⟩

/-! in a body -/
structure Ct where
  t : Option Addr
  F0 : Hp
  H0 : Hp
  F1 : Hp
def tDX (K : PySem.W.Frag) (c : Ct) (f : dE) : TE := fun σ H Q => ∃ ρ T F k, Ws K ρ T c.t σ c.F0 c.H0 F H ∧ Same c.F1 F ∧ f ρ T k ∧ Fin K c.t F H k Q
abbrev PEx (X : Cx) (c : Ct) (e : Expr) (f : dE) : Prop := PE X e (tDX X.K c f)
/-- what r wishes is what W wishes -/
def Lk (X : Cx) (c : Ct) (r : RX) (W : WX) : Prop := ∀ e ρ T F H cls d σ, Ws X.K ρ T c.t σ c.F0 c.H0 F H → Same c.F1 F → RepE X.K X.mg F H e cls d → r e ρ T → W cls d σ H
section
variable {X : Cx} {c : Ct} {e : Expr} {fe fa fb : dE} {st : Stmt} {rest : List Stmt} {f g : dS} {pos : Pos} {W : WX} {r : RX}
end

/-! calls -/
section
variable {X : Cx} {CX : CXT} {n : Nat} {f : Addr} {fd : FuncData} {ps : List Str} {sp : Sp} {x : Str} {p pos : Pos} {e : Expr} {es : List Expr} {t : TA}
end
section
variable {X : Cx} {n : Nat} {x : Str} {ps : List Str} {sem : SemX} {p pos : Pos} {e : Expr} {es : List Expr} {kws : List Keyword} {fr : dA} {c : Ct} {r : RX} {W : WX}
/-- a call that may raise -/
def dCallX (n : Nat) (sem : SemX) (r : RX) (fr : dA) : dE := fun ρ T k => fr ρ T fun as T1 => as.length = n ∧ sem (fun e T => r e ρ T) as T1 k
end
/-! defs -/
/-! raise -/
/-- what an own class without own __init__ must say -/
structure Xc0 (K : PySem.W.Frag) (mg : Str → Option Value) (x : Str) (C : Addr) : Prop where
  gC : mg x = some (.ref C)
  ex : PySem.W.excIn K C PySem.HandSPX.veTail "ValueError.__new__" = true
  kC : PySem.W.keepIn K (.ref C) = true
  sb : PySem.W.subIn K (.ref C) (.type "BaseException") = some true
  ty : PySem.W.typeIn K (.ref C) = some (.type "type")
section
variable {X : Cx} {c : Ct} {pos pos2 p : Pos} {W : WX} {r : RX} {x : Str} {C : Addr}
def sRaise0 (x : Str) (r : RX) : dS := fun _ ρ T => r ⟨x, none⟩ ρ T
end

/-! try .. except X -/
section
variable {X : Cx} {x : Str} {cv : Value} {body suite : List Stmt} {b₀ : Stmt} {np pos pos' : Pos} {b : RX → dS} {s : dS} {mt : Str → Option Bool}
end
/-! a tuple some times -/
section
variable {X : Cx} {a b : Expr} {fa fb : dE} {pos : Pos}
end
end L2.G

set_option maxHeartbeats 2000000
namespace PySem
namespace XgX
open PySem.W PySem.Calls PyProof.Rows PySem.HandSPX
/-! ### the text of __init__ -/
def iA (fl : Str) (p1 p2 : Pos) : Arguments := { posonlyargs := [], args := [{ arg := "self", annotation := none, pos := p1 }, { arg := fl, annotation := none, pos := p2 }], vararg := none, kwonlyargs := [], kw_defaults := [], kwarg := none, defaults := [] }
def iB (fl : Str) (q1 q2 q3 q4 : Pos) : List Stmt := [.Assign [.Attribute (.Name "self" q1) fl q2] (.Name fl q3) q4]
def iS (fl : Str) : Scope := { kind := .function, names := [(PySem.Str.ofString "self", .local), (fl, .local)], isGenerator := false, isCoroutine := false, more := [] }
/-- what the written part says of Low, at C, and of its __init__, at fI -/
structure XgTxt (x qi fl : Str) (K : Frag) (mg : Str → Option Value) (C fI : Addr) : Prop where
  gC : mg x = some (.ref C)
  cls : ∃ nm q N bs bm sn sub ab col dd k0 k1 k2 k3 k5, K.lookup C = some (excClassObj nm q C N bs bm true sn sub ab col dd k0 k1 k2 k3 k5 "ValueError.__new__") ∧ refsVE bm = true
  sa : findIn K (.ref C) "__setattr__" = some (some (.builtin "object.__setattr__"))
  ga : findIn K (.ref C) "__getattribute__" = some (some (.builtin "BaseException.__getattribute__"))
  gg : findIn K (.ref C) "__getattr__" = some none
  hfl : fl = "given" ∨ fl = "index"
  noN : findIn K (.ref C) fl = some none
  iC : findIn K (.ref C) "__init__" = some (some (.ref fI))
  tC : typeIn K (.ref fI) = some (.type "function")
  kC : keepIn K (.ref C) = true
  exC : subIn K (.ref C) (.type "BaseException") = some true
  tyC : typeIn K (.ref C) = some (.type "type")
  hdC : hasDictIn K C = true
  te : exmOne K (.ref C) (.ref C) = some true
  fn : ∃ (oc : Value) (od : Option Addr) (kV doc pm : Value) (an : Option Addr) (cdv ct : Value) (osl : Array (Option Value)) (p1 p2 q1 q2 q3 q4 : Pos),
    K.lookup fI = some ⟨oc, od, .func (fnOf "__init__" qi (iA fl p1 p2) (iB fl q1 q2 q3 q4) (iS fl) .none kV doc pm an cdv ct), osl⟩ ∧ codeIn K cdv qi = true
/-- what __init__ leaves of a fresh exception at x -/
structure InitEnd (fl : Str) (h h' : Heap) (x C dx t1 : Addr) (v : Value) : Prop where
  keep : ∀ b o, b ≠ x → h.get? b = some o → h'.get? b = some o
  obj : h'.get? x = some { cls := .ref C, dict := some dx, data := .fields #[.ref t1, .none, .none, .none, .bool false, .none] }
  dbig : h.objs.size ≤ dx
  dne : dx ≠ x
  ns : h'.Ns1 dx (fun y => if y = fl then some v else none)
/-- a made Low -/
structure OwnMade (fl : Str) (h h' : Heap) (e C d : Addr) (v : Value) : Prop where
  keep : ∀ b o, h.get? b = some o → h'.get? b = some o
  new : h.objs.size ≤ e
  obj : ∃ oe vs, h'.get? e = some oe ∧ oe.cls = .ref C ∧ oe.dict = some d ∧ oe.data = .fields vs ∧ vs[1]? = some .none
  dbig : h.objs.size ≤ d
  dne : d ≠ e
  ns : h'.Ns1 d (fun y => if y = fl then some v else none)
section
variable {prog : Program} {w : World} {A : Around} {E : Value → Shared → Prop} {R : Result → Shared → Prop} {s : Shared} {K : Frag} {mg : Str → Option Value} {nx qi fl : Str} {C fI : Addr}
end
end XgX
end PySem
namespace L2
open PySem PySem.Spec PyProof.Rows
section
variable {X : Cx} {nx qi fl : Str} {C fI : Addr}
end
end L2

namespace L2.G
open PySem PySem.Spec PyProof.Rows
section
variable {X : Cx} {c : Ct} {pos pos2 p : Pos} {W : WX} {r : RX} {x qi fl : Str} {C fI : Addr} {e : Expr} {fe : dE} {k : Nat}
def sRaise1 (x fl : Str) (fe : dE) (r : RX) : dS := fun _ ρ T => fe ρ T fun d T1 => r ⟨x, some (fl, d)⟩ ρ T1
end
end L2.G
namespace L2.G
open PySem PySem.Spec PyProof.Rows
section
variable {X : Cx} {x n : Str} {cv : Value} {i : Nat} {body suite : List Stmt} {b₀ : Stmt} {np pos pos' : Pos} {b : RX → dS} {s : ExD → Addr → Option Addr → dS} {mt : Str → Option Bool}
end
end L2.G
namespace L2.G
open PySem PySem.Spec PyProof.Rows
section
variable {X : Cx} {nm qi fl x : Str} {C fI a : Addr} {oe : Obj} {d : Option Addr} {pn : List (Addr × Obj)} {p pos : Pos}
/-- n.given in the suite, n in slot i -/
def dGiven (fl : Str) (i : Nat) (a : Addr) (d : Option Addr) : dE := fun ρ T k => match ρ[i]? with
  | some (some (.exc a' (some (dd, fl', x)))) => a' = a ∧ d = some dd ∧ fl' = fl ∧ k x T
  | _ => False
end
end L2.G

set_option maxHeartbeats 2000000
/-! isinstance of a caught exception, with or without a dict -/
namespace PySem.W
open PySem PySem.Spec PySem.Calls PyProof.Rows
section
variable {prog : Program} {w : World} {A : Around} {E : Value → Shared → Prop} {s : Shared} {K : Frag} {x D : Addr} {ox : Obj} {od : Option Obj}
end
end PySem.W
namespace L2
open PySem PySem.Spec PyProof.Rows
end L2
namespace L2.G
open PySem PySem.Spec PyProof.Rows
section
variable {X : Cx} {x cn : Str} {a : Addr} {oe : Obj} {cls : Value} {d : Option Addr} {pn : List (Addr × Obj)} {p p2 p3 pos : Pos} {cv : Value} {cx : V} {ob : Option Bool}
/-- isinstance(n, C) in the suite, n in slot i -/
def dIsE (i : Nat) (a : Addr) (d : Option Addr) (ob : Option Bool) : dE := fun ρ T k => match ob, ρ[i]? with
  | some b, some (some (.exc a' g)) => a' = a ∧ d = g.map (·.1) ∧ k (.bl b) T
  | _, _ => False
/-- n.given in the suite -/
def dGivE (fl : Str) (i : Nat) (a : Addr) (d : Option Addr) (ok : Bool) : dE := fun ρ T k => ok = true ∧ dGiven fl i a d ρ T k
end

/-! calls that may raise within other expressions -/
section
variable {X : Cx} {c : Ct} {e a b : Expr} {es : List Expr} {fe fa fb : dE} {fr : dA} {ft : dT} {f g : dS} {pos p : Pos} {n : Nat} {x : Str} {ps : List Str} {sem : Sem}
end
end L2.G
/-! l.count(True), l.index(True) of lists of truth values -/
namespace L2
open PySem PySem.Spec PyProof.Rows
section
variable {X : Cx}
end
end L2
namespace L2.G
open PySem PySem.Spec PyProof.Rows
def cntT : List Bool → Int | [] => 0 | true :: r => cntT r + 1 | false :: r => cntT r
theorem cntT_nil : cntT [] = 0 := rfl
theorem cntT_t {r : List Bool} : cntT (true :: r) = cntT r + 1 := rfl
theorem cntT_f {r : List Bool} : cntT (false :: r) = cntT r := rfl
def idxT : List Bool → Option Nat | [] => none | true :: _ => some 0 | false :: r => (idxT r).map (· + 1)
theorem idxT_f {r : List Bool} : idxT (false :: r) = (idxT r).map (· + 1) := rfl
def cntR (g : List Bool → Option Int) (P : Prop) (o : Option (List Bool)) : PD := match o with | some bs => (match g bs with | some i => some (P, .int i) | none => none) | none => none
def fCntT : D → D → PD | .lst xs, .bl true => cntR (fun bs => some (cntT bs)) (D.eqOk (.lst xs)) (bls? xs) | _, _ => none
def fIdxT : D → D → PD | .lst xs, .bl true => cntR (fun bs => (idxT bs).map Int.ofNat) (D.eqOk (.lst xs)) (bls? xs) | _, _ => none
theorem fCntT_lst {xs : List D} : fCntT (.lst xs) (.bl true) = cntR (fun bs => some (cntT bs)) (D.eqOk (.lst xs)) (bls? xs) := rfl
theorem fIdxT_lst {xs : List D} : fIdxT (.lst xs) (.bl true) = cntR (fun bs => (idxT bs).map Int.ofNat) (D.eqOk (.lst xs)) (bls? xs) := rfl
def dMt (o : Op2) (fo fx : dE) : dE := fun ρ T k => fo ρ T fun x T1 => ∃ xs, x = .lst xs ∧ fx ρ T1 fun y T2 => o x y fun d => k d T2
section
variable {X : Cx} {o e : Expr} {fo fe : dE} {apos cpos : Pos} {n : Nat}
end
/-! walking -/
def exK (ob : Option Bool) (s : Option (Option SV)) (a : Addr) (d : Option Addr) (T : Tk) (k : KD) (fz : Fz k := ⟨⟩) : Prop := match ob, s with
  | some b, some (some (.exc a' g)) => a' = a ∧ d = g.map (·.1) ∧ k (.bl b) T
  | _, _ => False
theorem exK_0 {b : Bool} {a : Addr} {T : Tk} {k : KD} : exK (some b) (some (some (.exc a none))) a none T k = k (.bl b) T := propext ⟨fun h => h.2.2, fun h => ⟨rfl, rfl, h⟩⟩
theorem exK_1 {b : Bool} {a dd : Addr} {x : Str × D} {T : Tk} {k : KD} : exK (some b) (some (some (.exc a (some (dd, x))))) a (some dd) T k = k (.bl b) T := propext ⟨fun h => h.2.2, fun h => ⟨rfl, rfl, h⟩⟩
def gvK (fl : Str) (s : Option (Option SV)) (a : Addr) (d : Option Addr) (T : Tk) (k : KD) (fz : Fz k := ⟨⟩) : Prop := match s with
  | some (some (.exc a' (some (dd, fl', x)))) => a' = a ∧ d = some dd ∧ fl' = fl ∧ k x T
  | _ => False
theorem gvK_1 {fl : Str} {a dd : Addr} {x : D} {T : Tk} {k : KD} : gvK fl (some (some (.exc a (some (dd, fl, x))))) a (some dd) T k = k x T := propext ⟨fun h => h.2.2.2, fun h => ⟨rfl, rfl, rfl, h⟩⟩
def mtK (x : D) (F : Prop) (fz : Fz F := ⟨⟩) : Prop := ∃ xs, x = .lst xs ∧ F
theorem mtK_go {xs : List D} {F : Prop} : mtK (.lst xs) F = F := propext ⟨fun ⟨_, _, h⟩ => h, fun h => ⟨xs, rfl, h⟩⟩
section
variable {ρ : En} {T : Tk} {k : KD} {o : Op2} {fe fo : dE} {fr : dA} {i n : Nat} {K : dEnds} {se : SemX} {r : RX} {x fl : Str} {a : Addr} {d : Option Addr} {ob : Option Bool}
theorem h_isE : dIsE i a d ob ρ T k = exK ob ρ[i]? a d T k := propext Iff.rfl
theorem h_givE : dGivE fl i a d true ρ T k = gvK fl ρ[i]? a d T k := propext ⟨fun h => h.2, fun h => ⟨rfl, h⟩⟩
theorem h_mt : dMt o fo fe ρ T k = fo ρ T fun x T1 => mtK x (fe ρ T1 fun y T2 => o x y fun d => k d T2) := propext Iff.rfl
theorem h_callX : dCallX n se r fr ρ T k = fr ρ T fun as T1 => callN n (se (fun e T => r e ρ T)) as T1 k := propext Iff.rfl
def raiK (r : RX) (x : Str) (g : Option (Str × D)) (ρ : En) (T : Tk) : Prop := r ⟨x, g⟩ ρ T
theorem raiK_go {r : RX} {x : Str} {g : Option (Str × D)} : raiK r x g ρ T = r ⟨x, g⟩ ρ T := propext Iff.rfl
theorem h_raise1 : sRaise1 x fl fe r K ρ T = fe ρ T fun d T1 => raiK r x (some (fl, d)) ρ T1 := propext Iff.rfl
theorem h_raise0 : sRaise0 x r K ρ T = raiK r x none ρ T := propext Iff.rfl
end
end L2.G
/-! the head's facts on classes -/
namespace L2.G
open PySem PySem.Spec PyProof.Rows
theorem exB_of {K : PySem.W.Frag} {C : Addr} (q : exB K C = true) : ExcC K C := by
  unfold exB at q
  simp only [Bool.and_eq_true, beq_iff_eq] at q
  obtain ⟨q1, q2, q3, q4, q5, q6, q7, q8⟩ := q
  exact ⟨q1, q2, q3, q4, q5, q6, q7, q8⟩
section
variable {z : Hd} {K : PySem.W.Frag} {h : Heap} {mg : Str → Option Value}
theorem Hd.Says.io (X : K.In h) (G : h.Ns mainGlobals mg) (c : z.Says K) {cn : Str} {is : Str → Option Bool} (hcn : cn ∈ z.exs) (hm : ∀ nm b, is nm = some b → nm ∈ z.exs ∧ (nm, cn, b) ∈ z.kis) :
    ∃ C, mg cn = some (.ref C) ∧ ∀ nm cls, mg nm = some cls → ∀ b, is nm = some b → ∃ D, cls = .ref D ∧ ExcC K D ∧ PySem.W.kitOne K (.ref D) (.ref C) = some b := by
  obtain ⟨C, hC, _⟩ := c.e _ hcn
  have z3 := PySem.W.mg_of X G hC
  refine ⟨C, z3, fun nm cls hn b hb => ?_⟩
  obtain ⟨h1, h2⟩ := hm nm b hb
  obtain ⟨D, hD, eD⟩ := c.e _ h1
  obtain ⟨u, C', k1, k2, k3⟩ := c.ki _ h2
  have z1 := PySem.W.mg_of X G hD
  have z2 := PySem.W.mg_of X G k1
  have z4 := PySem.W.mg_of X G k2
  simp only at z2 z4
  rw [hn] at z1 z2
  rw [z3] at z4
  cases z1
  cases z2
  cases z4
  exact ⟨D, rfl, exB_of eD, k3⟩
end
section
variable {X : Cx} {x cn : Str} {a : Addr} {oe : Obj} {cls : Value} {d : Option Addr} {pn : List (Addr × Obj)} {p p2 p3 pos : Pos} {ob : Option Bool}
end
section
variable {X : Cx} {a b : Expr} {fa fb : dE} {pos : Pos}
end
end L2.G

set_option maxHeartbeats 2000000
namespace L2.G
open PySem PySem.Spec PyProof.Rows
/-! repr of a list of a text and an empty dict -/
def ReprE (xs : List D) : Prop := ∃ w, xs = [.str w, .dct [] []] ∧ (PyData.list [.str w, .dict []]).showable = true ∧ (PyData.list [.str w, .dict []]).shown.length ≤ sizeLine
def fReprE : List D → PD
  | [.lst xs] => some (D.shOk (.lst xs) ∨ ReprE xs, .str (D.py (.lst xs)).shown)
  | ds => fRepr ds
theorem fReprE_lst {xs : List D} : fReprE [.lst xs] = some (D.shOk (.lst xs) ∨ ReprE xs, .str (D.py (.lst xs)).shown) := rfl
theorem fReprE_tup {xs : List D} : fReprE [.tup xs] = some (D.shOk (.tup xs), .str (D.py (.tup xs)).shown) := rfl
theorem fReprE_int {i : Int} : fReprE [.int i] = some (i.natAbs.log2 < 1920, .str (toString i)) := rfl
theorem fReprE_bl {b : Bool} : fReprE [.bl b] = some (True, .str (if b then "True" else "False")) := rfl
theorem fReprE_non : fReprE [.non] = some (True, .str "None") := rfl
section
variable {X : Cx} {e : Expr} {es : List Expr} {fr : dA} {p pos : Pos}
end
end L2.G
namespace L2.G
open PySem PySem.Spec PyProof.Rows
theorem cntC_some {P : Prop} {bs : List Bool} : cntR (fun bs => some (cntT bs)) P (some bs) = some (P, .int (cntT bs)) := rfl
def idxI (bs : List Bool) : Option Int := (idxT bs).map Int.ofNat
theorem idxI_t {r : List Bool} : idxI (true :: r) = some 0 := rfl
theorem idxI_f {r : List Bool} : idxI (false :: r) = (idxI r).map (· + 1) := by
  unfold idxI
  rw [idxT_f]
  cases idxT r <;> rfl
def ixR2 (P : Prop) (o : Option Int) : PD := match o with | some i => some (P, .int i) | none => none
theorem ixR2_some {P : Prop} {i : Int} : ixR2 P (some i) = some (P, .int i) := rfl
theorem idxC_some {P : Prop} {bs : List Bool} : cntR (fun bs => (idxT bs).map Int.ofNat) P (some bs) = ixR2 P (idxI bs) := by
  show (match (idxT bs).map Int.ofNat with | some i => some (P, D.int i) | none => none) = ixR2 P ((idxT bs).map Int.ofNat)
  cases (idxT bs).map Int.ofNat <;> rfl
end L2.G

set_option maxHeartbeats 2000000
namespace L2
open PySem PySem.Spec PyProof.Rows
section
variable {X : Cx} {e : Expr} {es : List Expr} {pos cpos apos : Pos} {t : TA} {te : TE}
end
end L2
namespace L2.G
open PySem PySem.Spec PyProof.Rows
def strs? : List D → Option (List Str)
  | [] => some []
  | .str z :: r => (strs? r).map (z :: ·)
  | _ :: _ => none
def idxS (z : Str) : List Str → Option Nat
  | [] => none
  | y :: r => if y = z then some 0 else (idxS z r).map (· + 1)
def idx? (ds : List D) (y : D) : Option Nat := match y with
  | .str z => (match strs? ds with
    | some ys => idxS z ys
    | none => none)
  | _ => none
/-- (..).index(y), a tuple of texts -/
def dTupIx (fr : dA) (fe : dE) : dE := fun ρ T k => fr ρ T fun as T1 => match vals? as with
  | some ds => ds.length ≤ 1000000 ∧ fe ρ T1 fun y T2 => ∃ j : Nat, idx? ds y = some j ∧ k (.int j) T2
  | none => False
section
variable {X : Cx} {e : Expr} {es : List Expr} {fe : dE} {fr : dA} {pos cpos apos : Pos} {c : Ct} {a b : Expr} {fa fb : dE}
end
def tixK (o : Option Nat) (k : D → Prop) (fz : Fz k := ⟨⟩) : Prop := ∃ j : Nat, o = some j ∧ k (.int j)
theorem tixK_go {j : Nat} {k : D → Prop} : tixK (some j) k = k (.int j) := propext ⟨fun ⟨_, e, h⟩ => by cases e; exact h, fun h => ⟨j, rfl, h⟩⟩
theorem h_tupIx {fr : dA} {fe : dE} {ρ : En} {T : Tk} {k : KD} : dTupIx fr fe ρ T k = fr ρ T fun as T1 => sqK (vals? as) fun ds => ds.length ≤ 1000000 ∧ fe ρ T1 fun y T2 => tixK (idx? ds y) fun d => k d T2 := propext Iff.rfl
end L2.G

set_option maxHeartbeats 4000000
namespace L2.G
open PySem PySem.Spec PyProof.Rows L2
section
variable {P : Program} {w : World} {A : Around} {E : Value → Shared → Prop} {s : Shared}
end
/-! sorted(set([..])), ints -/
section
variable {X : Cx}
variable {e : Expr} {fr : dA} {p p2 pos pos2 : Pos}
end
end L2.G

namespace L2.G
open PySem PySem.Spec PyProof.Rows L2
/-! zip of three tuples -/
def zipD3 : List D → List D → List D → List D
  | x :: xs, y :: ys, z :: zs => .tup [x, y, z] :: zipD3 xs ys zs
  | _, _, _ => []
theorem zipD3_cons {x y z : D} {xs ys zs : List D} : zipD3 (x :: xs) (y :: ys) (z :: zs) = .tup [x, y, z] :: zipD3 xs ys zs := rfl
theorem zipD3_nil {ys zs : List D} : zipD3 [] ys zs = [] := by simp [zipD3]
def zip3 : List SV → Option (List D)
  | [.val (.tup xs), .val (.tup ys), .val (.tup zs)] => some (zipD3 xs ys zs)
  | _ => none
theorem zip3_tup {xs ys zs : List D} : zip3 [.val (.tup xs), .val (.tup ys), .val (.tup zs)] = some (zipD3 xs ys zs) := rfl
def iZ3 (fr : dA) : dI := fun ρ T k => fr ρ T fun as T1 => match zip3 as with | some l => l.length ≤ 1000000 ∧ k l T1 | none => False
def zp3K (o : Option (List D)) (T : Tk) (k : List D → Tk → Prop) (fz : Fz k := ⟨⟩) : Prop := match o with | some l => l.length ≤ 1000000 ∧ k l T | none => False
theorem zp3K_go {l : List D} {T : Tk} {k : List D → Tk → Prop} : zp3K (some l) T k = (l.length ≤ 1000000 ∧ k l T) := propext Iff.rfl
theorem h_iZ3 {fr : dA} {ρ : En} {T : Tk} {k : List D → Tk → Prop} : iZ3 fr ρ T k = fr ρ T fun as T1 => zp3K (zip3 as) T1 k := propext Iff.rfl
end L2.G

namespace L2.G
open PySem PySem.Spec PyProof.Rows LamX
/-! a lambda without parameters, handed to a def that calls it -/
/-- what a call of the lambda does -/
abbrev Act := RK → Tk → KD → Prop
/-- act(), act in slot i -/
def dAct (i f c' : Addr) (q : Str) (act : Act) (r : RX) : dE := fun ρ T k => ρ[i]? = some (some (.fn f c' q)) ∧ act (fun e T' => r e ρ T') T k
/-- the call in any def that was entered at s, H with the lambda at f -/
def ActIn (P : Program) (w : World) (K : PySem.W.Frag) (mg : Str → Option Value) (base : Heap) (A : Around) (fs : List Env) (s : Shared) (H : Hp) (t : Option Addr) (F : Hp) (f c' : Addr) (q : Str) (act : Act) : Prop :=
  ∀ (N : List Str) (x : Str) (sc : Scope) (g : Addr) (cdg : Value) (pn : List (Addr × Obj)) (xe : Value → Shared → Prop) (c : Ct) (r : RX) (W : WX) (i : Nat) (a : Str) (p1 p2 : Pos),
    N[i]? = some a → Vis sc a → (a == ("__debug__" : Str)) = false → (a == ("__classdict__" : Str)) = false → c.t = t → c.F0 = F → c.H0 = H →
    Takes ((cxOf CX0 P w K mg base N x sc g cdg A fs s H E0).tr pn xe) W → Lk ((cxOf CX0 P w K mg base N x sc g cdg A fs s H E0).tr pn xe) c r W →
    PEx ((cxOf CX0 P w K mg base N x sc g cdg A fs s H E0).tr pn xe) c (.Call (.Name a p1) [] [] p2) (dAct i f c' q act r)
def OkL (P : Program) (w : World) (K : PySem.W.Frag) (mg : Str → Option Value) (base : Heap) (n : Nat) (x a : Str) (sem : Act → Tk → KD → Prop) : Prop :=
  ∃ g fd, mg x = some (.ref g) ∧ PySem.W.keepIn K (.ref g) = true ∧ Binds K fd [a] [] ∧
    ∀ (A : Around) (fs : List Env) (s : Shared) (H : Hp) (f c' : Addr) (q : Str) (act : Act) (t : Option Addr) (F : Hp) (T : Tk) (k : KD) (Q : VK), Room n A → A.guards = some [] → Env0 P w K mg base A fs s H → BindsTo s fd ⟨[.ref f], []⟩ ([a].zip [.ref f]) →
      Wt K T t F H → H c' = some (CodeO c' q) → ActIn P w K mg base A fs s H t F f c' q act → sem act T k → Fin K t F H k Q → codeAny (model P w) A (.call (.ref g) ⟨[.ref f], []⟩) (CR CX0 fs P w H s Q E0) s
theorem OkL.mono {P : Program} {w : World} {K : PySem.W.Frag} {mg : Str → Option Value} {base : Heap} {m n : Nat} {x a : Str} {sem : Act → Tk → KD → Prop} (h : OkL P w K mg base m x a sem) (l : m ≤ n) : OkL P w K mg base n x a sem :=
  let ⟨g, fd, h1, h2, h3, h4⟩ := h; ⟨g, fd, h1, h2, h3, fun A fs s H f c' q act t F T k Q hr => h4 A fs s H f c' q act t F T k Q (hr.mono l)⟩
section
variable {X : Cx} {pins : List (Addr × Obj)} {σ : L2.St} {H HZ : Hp} {s s1 : Shared}
end

/-! the lambda is made and handed on -/
/-- own lists are out of sight -/
def hidS : Option SV → Option SV | some (.own _) => none | s => s
def hid (ρ : En) : En := ρ.map hidS
theorem hid_nil : hid [] = [] := rfl
theorem hid_c {s : Option SV} {ρ : En} : hid (s :: ρ) = hidS s :: hid ρ := rfl
theorem hidS_val {d : D} : hidS (some (.val d)) = some (.val d) := rfl
theorem hidS_own {xs : List D} : hidS (some (.own xs)) = none := rfl
theorem hidS_tank : hidS (some .tank) = some .tank := rfl
theorem hidS_none : hidS none = none := rfl
theorem hid_get {ρ : En} {i : Nat} {s : SV} (h : (hid ρ)[i]? = some (some s)) : ρ[i]? = some (some s) ∧ ∀ xs, s ≠ .own xs := by
  unfold hid at h
  rw [List.getElem?_map] at h
  obtain ⟨u, h1, h2⟩ := Option.map_eq_some_iff.mp h
  cases u with
  | none => cases h2
  | some v =>
    cases v with
    | own ys => cases h2
    | _ => cases h2; exact ⟨h1, fun _ z => nomatch z⟩
theorem Wd.hid {K : PySem.W.Frag} {ρ : En} {T : Tk} {t : Option Addr} {σ : L2.St} {F H : Hp} (w : Wd K ρ T t σ F H) : Wd K (hid ρ) T t σ F H :=
  ⟨w.wt, by rw [← w.len]; simp [G.hid], fun i s e => w.slot i s (hid_get e).1, fun i j xs ys l e1 _ _ _ => absurd rfl ((hid_get e1).2 xs)⟩
def dLam (sem : Act → Tk → KD → Prop) (b : RX → dE) : dE := fun ρ T k => sem (fun r T' k' => b (fun e _ T'' => r e T'') (hid ρ) T' k') T k
section
variable {X : Cx} {pins : List (Addr × Obj)} {σ : L2.St} {H : Hp} {s : Shared} {ρ : En} {T : Tk} {t : Option Addr} {F : Hp} {f c' : Addr} {scope : Scope} {params : Arguments} {body : Expr} {pm ctv : Value} {k : Nat} {b : RX → dE}
end
section
variable {X : Cx} {pins : List (Addr × Obj)} {σ : L2.St} {H : Hp} {s : Shared} {c P : Addr} {params : Arguments} {body : Expr} {scope : Scope} {pos : Pos} {E Q : Value → Shared → Prop}
/-- making a lambda changes its def's table, and nothing else -/
def Laid (H H1 : Hp) (P c' : Addr) (q : Str) : Prop := H1 = H ∨ ∃ ps ps', H P = some (.tbl ps) ∧ H c' = none ∧ H1 = upd (upd H P (.tbl ps')) c' (CodeO c' q)
theorem Laid.ext {H H1 : Hp} {P c' : Addr} {q : Str} (l : Laid H H1 P c' q) {b : Addr} {o : HO} (e : H b = some o) (n : b ≠ P) : H1 b = some o := by
  rcases l with rfl | ⟨ps, ps', h1, h2, rfl⟩
  · exact e
  · rw [upd_ne (ne_of_none e h2), upd_ne n, e]
theorem Laid.there {H H1 : Hp} {P c' : Addr} {q : Str} (l : Laid H H1 P c' q) {b : Addr} {o : HO} (e : H b = some o) : ∃ o', H1 b = some o' := by
  by_cases n : b = P
  · rcases l with rfl | ⟨ps, ps', h1, h2, rfl⟩
    · exact ⟨o, e⟩
    · subst n
      exact ⟨_, by rw [upd_ne (ne_of_none e h2), upd_same]⟩
  · exact ⟨o, l.ext e n⟩
theorem Laid.wt {K : PySem.W.Frag} {T : Tk} {t : Option Addr} {F H H1 : Hp} {P c' : Addr} {q : Str} (l : Laid H H1 P c' q) (w : Wt K T t F H) (hp : (P, q) ∈ tabsOf K) (hu : ∀ p ∈ tabsOf K, p.1 = P → p.2 = q) (ht : TabS H1 P q) : Wt K T t F H1 := by
  have fP : F P = none := w.tabs.none _ hp
  obtain ⟨psP, atP, _⟩ := w.tabs.tab _ hp
  refine ⟨fun a u e => l.ext (w.sub a u e) (fun z => by rw [z, fP] at e; cases e), fun a e => ?_, w.tabs.none, fun p q1 => ?_, w.tabs.no, fun b ps e => ?_⟩
  · obtain ⟨h1, vs, h2, h3⟩ := w.tank a e
    exact ⟨h1, vs, l.ext h2 (fun z => by have a1 : H P = _ := atP; rw [z, a1] at h2; cases h2), h3⟩
  · by_cases z : p.1 = P
    · rw [z, hu p q1 z]; exact ht
    · obtain ⟨ps, k1, k2, k3⟩ := w.tabs.tab p q1
      refine ⟨ps, l.ext k1 z, k2, fun pos cv hc => ?_⟩
      obtain ⟨c0, e1, e2⟩ := k3 pos cv hc
      exact ⟨c0, e1, l.ext e2 (fun z => by have a1 : H P = _ := atP; rw [z, a1] at e2; unfold CodeO at e2; cases e2)⟩
  · rcases l with rfl | ⟨ps0, ps', h1, h2, rfl⟩
    · exact w.tabs.only b ps e
    · by_cases n1 : b = c'
      · rw [n1, upd_same] at e; unfold CodeO at e; cases e
      · by_cases n2 : b = P
        · rw [n2]; exact ⟨_, hp⟩
        · rw [upd_ne n1, upd_ne n2] at e; exact w.tabs.only b ps e
theorem Laid.grow {K : PySem.W.Frag} {T : Tk} {t : Option Addr} {F H H1 : Hp} {P c' : Addr} {q : Str} (l : Laid H H1 P c' q) (w : Wt K T t F H) (hp : (P, q) ∈ tabsOf K) : Grow t F H F H1 := by
  obtain ⟨psP, atP, _⟩ := w.tabs.tab _ hp
  exact ⟨Same.refl _, fun a u e _ n => l.ext e (fun z => by have a1 : H P = _ := atP; rw [z, a1] at e; cases e; exact n _ rfl), fun _ _ _ n => n, fun a u e => l.there e⟩
end
section
variable {X : Cx} {n k : Nat} {x a : Str} {sem : Act → Tk → KD → Prop} {params : Arguments} {body : Expr} {scope : Scope} {lpos p pos : Pos} {b : RX → dE}
end

/-! try, in a def whose entry is known -/
section
variable {X : Cx} {x n : Str} {cv : Value} {i : Nat} {body suite : List Stmt} {b₀ : Stmt} {np pos pos' : Pos} {b : RX → dS} {s : ExD → Addr → Option Addr → dS} {so : dS} {mt : Str → Option Bool} {c0 : Ct}
end
section
variable {X : Cx} {c : Ct} {es : List Expr} {fr : dA} {pos : Pos}
end

/-! calls by name of defs that may raise -/
section
variable {X : Cx} {CX : CXT} {n : Nat} {f : Addr} {fd : FuncData} {ps ks : List Str} {sp : Sp} {x : Str} {p pos : Pos} {kws : List Keyword} {tk : TA}
end
section
variable {X : Cx} {n : Nat} {x : Str} {ps ks : List Str} {sem : SemX} {p pos : Pos} {kws : List Keyword} {fr : dA} {st : Stmt} {is : List Nat} {c : Ct} {r : RX} {W : WX}
def dCallXP (n : Nat) (is : List Nat) (sem : SemX) (r : RX) (fr : dA) : dE := fun ρ T k => fr ρ T fun as T1 => as.length = n ∧ (permL is as).length = n ∧ sem (fun e T => r e ρ T) (permL is as) T1 k
end
/-! the walker -/
def lamK (sem : Act → Tk → KD → Prop) (b : RX → dE) (ρ : En) (T : Tk) (k : KD) (fz : Fz (b, k) := ⟨⟩) : Prop := sem (fun r T' k' => b (fun e _ T'' => r e T'') (hid ρ) T' k') T k
theorem lamK_in {sem : Act → Tk → KD → Prop} {b : RX → dE} {ρ : En} {T : Tk} {k : KD} (h : sem (fun r T' k' => b (fun e _ T'' => r e T'') (hid ρ) T' k') T k) : lamK sem b ρ T k := h
theorem h_lam {sem : Act → Tk → KD → Prop} {b : RX → dE} {ρ : En} {T : Tk} {k : KD} : dLam sem b ρ T k = lamK sem b ρ T k := propext Iff.rfl
theorem h_callXP {n : Nat} {is : List Nat} {se : SemX} {r : RX} {fr : dA} {ρ : En} {T : Tk} {k : KD} : dCallXP n is se r fr ρ T k = fr ρ T fun as T1 => callP n is (se (fun e T => r e ρ T)) as T1 k := propext Iff.rfl
end L2.G

set_option maxHeartbeats 2000000
/-! tuples whose object is known as it lies: x = tuple(list), x.index(number) -/
namespace L2
open PySem PySem.Spec PyProof.Rows
section
variable {X : Cx}
end
end L2
namespace L2.G
open PySem PySem.Spec PyProof.Rows
/-- x = tuple(e), e a list; x is then known as it lies -/
def sTupP (i : Nat) (fe : dE) : dS := fun k ρ T => fe ρ T fun d T1 => match d with | .lst xs => k.nx (ρ.set i (some (.ptup xs))) T1 | _ => False
def numL? : List D → Option (List Int)
  | [] => some []
  | .int z :: r => (numL? r).map (z :: ·)
  | _ :: _ => none
def idxN (z : Int) : List Int → Option Nat
  | [] => none
  | y :: r => if y = z then some 0 else (idxN z r).map (· + 1)
def idxD? (ds : List D) (y : D) : Option Nat := match y with
  | .int z => (match numL? ds with
    | some ys => idxN z ys
    | none => none)
  | _ => none
/-- x.index(e), x such a tuple -/
def dPix (i : Nat) (fe : dE) : dE := fun ρ T k => match ρ[i]? with
  | some (some (.ptup ds)) => fe ρ T fun y T1 => ∃ j : Nat, idxD? ds y = some j ∧ k (.int j) T1
  | _ => False
section
variable {X : Cx} {e : Expr} {fe : dE} {p p2 pos cpos apos : Pos} {x : Str}
end
/-! the walker -/
def tuPK (d : D) (k : List D → Prop) (fz : Fz k := ⟨⟩) : Prop := match d with | .lst xs => k xs | _ => False
theorem tuPK_go {xs : List D} {k : List D → Prop} : tuPK (.lst xs) k = k xs := propext Iff.rfl
theorem h_tupP {i : Nat} {fe : dE} {K : dEnds} {ρ : En} {T : Tk} : sTupP i fe K ρ T = fe ρ T fun d T1 => tuPK d fun xs => setE (ρ.set i (some (.ptup xs))) fun ρ => K.nx ρ T1 := propext Iff.rfl
def pixK (s : Option (Option SV)) (F : List D → Prop) (fz : Fz F := ⟨⟩) : Prop := match s with | some (some (.ptup ds)) => F ds | _ => False
theorem pixK_go {ds : List D} {F : List D → Prop} : pixK (some (some (.ptup ds))) F = F ds := propext Iff.rfl
theorem h_pix {i : Nat} {fe : dE} {ρ : En} {T : Tk} {k : KD} : dPix i fe ρ T k = pixK ρ[i]? fun ds => fe ρ T fun y T1 => tixK (idxD? ds y) fun d => k d T1 := propext Iff.rfl
theorem hidS_ptup {xs : List D} : hidS (some (.ptup xs)) = some (.ptup xs) := rfl
end L2.G

namespace L2.G
open PySem PySem.Spec PyProof.Rows
/-! a dict of the module whose keys are tuples of ints and whose values are ints: TABLE.get(x) -/
def lkT (kvs : List (List Int × Int)) (k : List Int) : Option Int := (kvs.find? fun c => decide (c.1 = k)).map (·.2)
theorem lkT_at (k : List Int) : ∀ L : List GE, match lkT (L.map fun y => (y.1, y.2.2.1)) k with
    | some i => ∃ t, (atKey (L.map fun y => (y.1, y.2.1, Value.int y.2.2.1 y.2.2.2)) k).map (·.2) = some (.int i t)
    | none => (atKey (L.map fun y => (y.1, y.2.1, Value.int y.2.2.1 y.2.2.2)) k).map (·.2) = none
  | [] => rfl
  | y :: L => by
    have ih := lkT_at k L
    unfold lkT atKey at ih ⊢
    rw [List.map_cons, List.map_cons, List.find?_cons, List.find?_cons]
    by_cases e : y.1 = k
    · simp only [decide_eq_true e]
      exact ⟨_, rfl⟩
    · simp only [decide_eq_false e]
      exact ih
theorem grep_tI {X : Cx} {pins : List (Addr × Obj)} {σ : L2.St} {H : Hp} {s : Shared} {k : List Int} {b : Addr} (I : Inv X pins σ H s) (h : GRep X.K (tI k) (.ref b)) : IsT X.prog X.w s.heap k b := by
  obtain ⟨v, r, p⟩ := h.rep
  cases v with
  | ref c =>
    obtain rfl : b = c := by cases r; rfl
    have q := p H
    unfold tI at q
    obtain ⟨c, vs, e, hq, hr⟩ := rep_tup q
    cases e
    have e2 := nums_inv hr
    subst e2
    exact I.isT hq
  | _ => first | (cases r; done) | (obtain ⟨_, z⟩ := r; cases z)
def getT (o : Option Int) : D := match o with | some i => .int i | none => .non
/-- what .get of the table gives -/
def getK (kvs : List (List Int × Int)) (o : Option (List Int)) (k : D → Prop) : Prop := match o with | some ns => k (getT (lkT kvs ns)) | none => False
def tupN (d : D) : Option (List Int) := match d with | .tup xs => nums? xs | _ => none
def dGetT (kvs : List (List Int × Int)) (fe : dE) : dE := fun ρ T k => fe ρ T fun d T1 => getK kvs (tupN d) fun r => k r T1
section
variable {X : Cx} {e : Expr} {fe : dE} {p apos cpos : Pos} {x : Str} {kvs : List (List Int × Int)}
theorem d_getT (hu : X.A.units + 66 < cLine) (g : GT X.K X.mg x kvs) (he : PEd X e fe) (hg : Gl X x := by rfl) (hd : (x == ("__debug__" : Str)) = false := by decide)
    (hb : attributeBase (.Name x p) "get" X.env (eval (.Name x p) X.env) = eval (.Name x p) X.env := by rfl)
    (hf : ((backTo cpos (starEach [e] X.env)).all (fun x => !x.1) && (backToKw cpos (keywordEach [] X.env)).all (fun x => x.1.isSome)
      && decide (([e] : List Expr).length + ([] : List Keyword).length + (if ([] : List Keyword).isEmpty then 0 else 1) < 30)) = true := by rfl)
    (hl : (apos.endLine == cpos.line) = true := by rfl) (ht : backTo cpos (starEach [e] X.env) = [(false, eval e X.env)] := by rfl) :
    PEd X (.Call (.Attribute (.Name x p) "get" apos) [e] [] cpos) (dGetT kvs fe) := by
  obtain ⟨a, es, n, L, hm, hs, hK, hes, hk, nd, rfl⟩ := g
  refine ⟨fun pins s σ H Q I h => ?_⟩
  obtain ⟨ρ, T, t, F, k, w, h, f⟩ := h
  have h : fe ρ T (fun d T1 => getK (L.map fun y => (y.1, y.2.2.1)) (tupN d) fun r => k r T1) := h
  have gl : PE X (.Name x p) (tC (.ref a)) := pe_glob hg hm rfl hd
  refine wpAny_Call_method hb hf hl PySem.F.plainAttrs_dict PySem.F.slot_dict_get PySem.F.type_dict_get (thn (gl.run pins s σ H (fun v H1 => v = .ref a ∧ H1 = H) I ⟨rfl, rfl⟩) fun u s1 ⟨v, H1, I1, rv, ev, eH⟩ => ?_)
  subst ev eH
  obtain rfl : u = Value.ref a := rv
  have dct : ∀ {s2 : Shared} {H2 : Hp}, Inv X pins σ H2 s2 → s2.heap.DictOfH (tupleKind (intKind X.prog X.w)) a (L.map fun y => (y.1, y.2.1, Value.int y.2.2.1 y.2.2.2)) := fun I2 => by
    refine ⟨_, es, n, I2.kIn _ _ hK, ⟨rfl, rfl, rfl⟩, rfl, ?_, ?_, ?_⟩
    · rw [hes, List.map_map]; exact List.map_congr_left fun _ _ => rfl
    · intro y hy
      obtain ⟨z, hz, rfl⟩ := List.mem_map.mp hy
      exact grep_tI I2 (hk z hz)
    · rw [List.map_map]; exact nd
  refine ⟨(dct I1).typeIs, fun b q => ?_, ?_⟩
  · cases q
    exact ⟨_, I1.kIn _ _ hK, rfl⟩
  rw [ht]
  refine Calls.callWith_builtin rfl (Calls.evalArgs_plain (Calls.spliced_cons (thn (he.run pins s1 σ H1 _ I1 ⟨ρ, T, t, F, (fun d T1 => getK (L.map fun y => (y.1, y.2.2.1)) (tupN d) fun r => k r T1), w, h, fun v H2 F2 d T2 w2 g2 r2 h2 => (⟨F2, d, T2, w2, g2, r2, h2⟩ : ∃ F2 d T2, Wt X.K T2 t F2 H2 ∧ Grow t F H1 F2 H2 ∧ Rep X.K F2 d v ∧ getK (L.map fun y => (y.1, y.2.2.1)) (tupN d) fun r => k r T2)⟩) fun iv s2 ⟨y, H2, I2, ry, F2, d, T2, w2, g2, r2, h2⟩ => Calls.spliced_nil ?_)))
  unfold tupN at h2
  split at h2
  · rename_i xs
    obtain ⟨b, ws, rfl, hq, hr⟩ := rep_tup r2
    cases q : nums? xs with
    | none => rw [q] at h2; exact h2.elim
    | some ns =>
      rw [q] at h2
      rw [nums_some q] at hr
      have e2 := nums_inv hr
      subst e2
      obtain rfl : iv = Value.ref b := ry
      refine call_meetsIn PySem.F.slot_dict_get (dct I2).typeIs PySem.F.entry_dict_get (PySem.F.args_dict_get_2 _ _) (meetsH_dict_get (tupleKind (intKind X.prog X.w)) a b hs) ⟨tupleKind_room_in1 (by omega), ns, _, I2.isT (same_t w2.sub hq), dct I2, ?_⟩
      have la := lkT_at ns L
      have h3 : k (getT (lkT (L.map fun y => (y.1, y.2.2.1)) ns)) T2 := h2
      cases ql : lkT (L.map fun y => (y.1, y.2.2.1)) ns with
      | none =>
        rw [ql] at la h3
        rw [show (atKey (L.map fun y => (y.1, y.2.1, Value.int y.2.2.1 y.2.2.2)) ns).map (·.2) = none from la]
        exact ⟨.non, H2, I2.tok _, rfl, (f.then g2).val w2 .non h3⟩
      | some i =>
        rw [ql] at la h3
        obtain ⟨t', la⟩ := la
        rw [la]
        exact ⟨.int i, H2, I2.tok _, ⟨t', rfl⟩, (f.then g2).val w2 (.int i) h3⟩
  · exact h2.elim
end
theorem h_getT {kvs : List (List Int × Int)} {fe : dE} {ρ : En} {T : Tk} {k : KD} : dGetT kvs fe ρ T k = fe ρ T fun d T1 => getK kvs (tupN d) fun r => k r T1 := propext Iff.rfl
theorem tupN_tup {xs : List D} : tupN (.tup xs) = nums? xs := rfl
theorem getK_some {kvs : List (List Int × Int)} {ns : List Int} {k : D → Prop} : getK kvs (some ns) k = k (getT (lkT kvs ns)) := propext Iff.rfl
end L2.G

set_option maxHeartbeats 2000000
/-! (..).index(x), tuples of ints among tuples of ints; x, y = (..), None -/
namespace L2
open PySem PySem.Spec PyProof.Rows
section
variable {X : Cx}
end
end L2
namespace L2.G
open PySem PySem.Spec PyProof.Rows
/-- x, y = (..), None; x is then known as it lies -/
def sUnpP (i j : Nat) (fr : dA) : dS := fun k ρ T => fr ρ T fun as T1 => match vals? as with
  | some ds => ds.length ≤ 1000000 ∧ k.nx ((ρ.set i (some (.ptup ds))).set j (some (.val .non))) T1
  | none => False
section
variable {X : Cx} {e : Expr} {es : List Expr} {fe : dE} {fr : dA} {p pos cpos apos : Pos} {x y : Str}
def idxTT (z : List Int) : List (List Int) → Option Nat
  | [] => none
  | y :: r => if y = z then some 0 else (idxTT z r).map (· + 1)
/-- (some of tuples of ints).index(a tuple of ints) -/
def idxTT? (ds : List D) (y : D) : Option Nat := match tups? ds, tupN y with
  | some nss, some z => idxTT z nss
  | _, _ => none
/-- x.index(e), x known as it lies -/
def dPixT (i : Nat) (fe : dE) : dE := fun ρ T k => match ρ[i]? with
  | some (some (.ptup ds)) => fe ρ T fun y T1 => ∃ j : Nat, idxTT? ds y = some j ∧ k (.int j) T1
  | _ => False
end
theorem h_unpP {i j : Nat} {fr : dA} {K : dEnds} {ρ : En} {T : Tk} : sUnpP i j fr K ρ T = fr ρ T fun as T1 => sqK (vals? as) fun ds => ds.length ≤ 1000000 ∧ setE ((ρ.set i (some (.ptup ds))).set j (some (.val .non))) fun ρ => K.nx ρ T1 := propext Iff.rfl
theorem h_pixT {i : Nat} {fe : dE} {ρ : En} {T : Tk} {k : KD} : dPixT i fe ρ T k = pixK ρ[i]? fun ds => fe ρ T fun y T1 => tixK (idxTT? ds y) fun d => k d T1 := propext Iff.rfl
end L2.G

set_option maxHeartbeats 2000000
/-! xs[::k] of tuples, k a number above 1 that is written -/
namespace L2
open PySem PySem.Spec PyProof.Rows
/-- every k-th -/
def stp {α : Type} (k : Nat) (xs : List α) : List α := (List.range ((xs.length + (k - 1)) / k)).filterMap fun i => xs[i * k]?
section
variable {prog : Program} {w : World} {A : Around} {E : Value → Shared → Prop} {s : Shared}
end
theorem Vals.pick {xs : List V} {us : List Value} (r : Vals xs us) (g : Nat → Nat) : ∀ is : List Nat, Vals (is.filterMap fun i => xs[g i]?) (is.filterMap fun i => us[g i]?)
  | [] => .nil
  | i :: is => by
    have ih := Vals.pick r g is
    rw [List.filterMap_cons, List.filterMap_cons]
    cases h : xs[g i]? with
    | none => rw [r.none_of h]; exact ih
    | some x =>
      obtain ⟨u, hu, hr⟩ := r.get h
      rw [hu]
      exact .cons hr ih
theorem Vals.stp {k : Nat} {xs : List V} {us : List Value} (r : Vals xs us) : Vals (L2.stp k xs) (L2.stp k us) := by
  unfold L2.stp
  rw [← r.length]
  exact Vals.pick r (fun i => i * k) _
namespace G
section
variable {X : Cx} {e : Expr} {fe : dE}
theorem RepL.pick {K : PySem.W.Frag} {F : Hp} {ds : List D} {vs : List V} (r : RepL K F ds vs) (g : Nat → Nat) : ∀ is : List Nat, RepL K F (is.filterMap fun i => ds[g i]?) (is.filterMap fun i => vs[g i]?)
  | [] => .nil
  | i :: is => by
    have ih := RepL.pick r g is
    rw [List.filterMap_cons, List.filterMap_cons]
    cases h : ds[g i]? with
    | none =>
      cases h2 : vs[g i]? with
      | none => exact ih
      | some v =>
        obtain ⟨d, hd, _⟩ := RepL.getV r h2
        rw [h] at hd
        cases hd
    | some d =>
      obtain ⟨v, hv, hr⟩ := RepL.get r h
      rw [hv]
      exact .cons hr ih
def D.stp? (k : Nat) : D → Option D | .tup xs => some (.tup (L2.stp k xs)) | _ => none
theorem stp_tup {k : Nat} {xs : List D} : D.stp? k (.tup xs) = some (.tup (L2.stp k xs)) := rfl
def dStp (k : Nat) (fe : dE) : dE := fun ρ T q => fe ρ T fun x T1 => match D.stp? k x with | some d => q d T1 | none => False
theorem h_stp {k : Nat} {ρ : En} {T : Tk} {q : KD} : dStp k fe ρ T q = fe ρ T fun x T1 => opK (D.stp? k x) fun d => q d T1 := propext Iff.rfl
end
theorem stp3_4 {a b c d : D} : L2.stp 3 [a, b, c, d] = [a, d] := by
  unfold L2.stp
  rw [show ([a, b, c, d].length + (3 - 1)) / 3 = 2 by simp, show List.range 2 = [0, 1] from rfl]
  rfl
end G
end L2

set_option maxHeartbeats 4000000
/-! set of a tuple of tuples of ints -/
namespace L2
open PySem PySem.Spec PyProof.Rows
section
variable {P : Program} {w : World} {A : Around} {E : Value → Shared → Prop} {s : Shared}
def nwS (w : World) : Obj := { cls := .type "set", dict := none, data := .set #[] 0 (.fresh 0 0 (!w.params.followText "set-order")) }
/-- what the set holds in the end -/
def SetDone (P : Program) (w : World) (s : Shared) (ks : List (Addr × List Int)) (s2 : Shared) : Prop := ∃ h' tk L es ep t, s2 = { s with heap := h', toks := tk } ∧ SetTR P w h' s.heap.objs.size L es ep t ∧ Got ks ks.length L ∧ ∀ b o, s.heap.get? b = some o → h'.get? b = some o
theorem nwS_at : (s.heap.push (nwS w)).get? s.heap.objs.size = some (nwS w) := Heap.get?_push_size _ rfl
theorem call_setT {l : Addr} {items : Array Value} (ks : List (Addr × List Int)) {Q : Value → Shared → Prop} (hh : A.handled = none) (hl : s.heap.IsTuple l items) (hit : items.toList = ks.map fun p => Value.ref p.1)
    (hk : ∀ p ∈ ks, IsT P w s.heap p.2 p.1) (hfew : ks.length < 64) (hu : A.units + 3 < cLine) (h : ∀ s2, SetDone P w s ks s2 → Q (.ref s.heap.objs.size) s2) :
    wpAny (model P w) A (call (.type "set") [.ref l]) Q E s := by
  have hn : items.size = ks.length := by
    have q := congrArg List.length hit
    rwa [Array.length_toList, List.length_map] at q
  obtain ⟨c, tl, hmro⟩ := F.called_set.mro
  have h0 := F.called_set.made
  have h1 := F.called_set.notType
  have h2 := F.called_set.canCreate
  have h3 := F.called_set.sub
  have h4 := F.typeCall_set_1 (.ref l)
  refine wpAny_call (codeAny_of_tree ?_)
  show wpAny _ _ (callAny (.type "set") _) _ _ _
  refine wpAny_pure ⟨Code.quiet_builtin _ (by decide +kernel), codeAny_builtin F.entry_type_call ?_⟩
  rw [Around.under_plain (weight_type_call_type "set" [.ref l] []) rfl]
  repeat (any_goals (first | assumption | wp_step))
  refine codeAny_mono (code_set_led1 (.ref l) (E := E) (Q₁ := fun v s1 => v = .ref s.heap.objs.size ∧ s1 = { s with heap := s.heap.push (nwS w) }) ⟨rfl, rfl⟩) fun r s1 hr => ?_
  match r, hr with
  | .error e, hr => exact hr
  | .ok (.ret v), hr =>
    obtain ⟨rfl, rfl⟩ := hr
    have hS := nwS_at (w := w) (s := s)
    have hT : Shared.TypeIs { s with heap := s.heap.push (nwS w) } (.ref s.heap.objs.size) "set" := ⟨_, hS, rfl⟩
    have i1 := F.called_set.init.lookup
    have i2 := F.called_set.init.bind (.ref s.heap.objs.size)
    repeat (any_goals (first | assumption | wp_step))
    refine codeAny_mono (codeAny_call_builtin (R := wants (fun r s2 => r = .none ∧ SetDone P w s ks s2) E) F.called_set.init.plain F.entry_set_init (check_set_init_1 hT ?_)) fun r2 s2 hr2 => ?_
    · have hl1 : (s.heap.push (nwS w)).IsTuple l items := hl.push _
      obtain ⟨ol, hol, hcl, nl, hdl⟩ := id hl
      obtain ⟨ocls, odict, odata, oslots⟩ := ol
      simp only at hcl hdl
      subst hcl
      subst hdl
      have hol' : (s.heap.push (nwS w)).get? l = some { cls := .type "tuple", dict := odict, data := .seq items nl, slots := oslots } := Heap.get?_push_of_some _ hol
      have hsls := F.sub_tuple_set
      have hslf := F.sub_tuple_frozenset
      have hne : (Value.type "tuple" == Value.type "dict") = false := by decide
      unfold Builtin.«set.__init__» noKeywords Builtin.Frozenset.updateFrom
      generalize hPI : pyIter = PI
      wp_walk
      subst hPI
      refine wpAny_pyIter_tuple hl1 ?_
      refine wpAny_bind (wpAny_runValue ?_)
      have lS : l < s.heap.objs.size := Heap.lt_size hol
      have z1 : (s.heap.push (nwS w)).objs.size = s.heap.objs.size + 1 := Heap.size_push ..
      have gone : ∀ b, s.heap.objs.size ≤ b → s.heap.get? b = none := fun b hb => by
        cases q : s.heap.get? b with
        | none => rfl
        | some o => exact absurd (Heap.lt_size q) (Nat.not_lt.mpr hb)
      have h3' : A.in1.in1.in1.handled = none := by simp [hh]
      have nI : l ≠ (s.heap.push (nwS w)).objs.size := by rw [z1]; exact Nat.ne_of_lt (Nat.lt_succ_of_lt lS)
      have nS : s.heap.objs.size ∉ [(s.heap.push (nwS w)).objs.size, l] := by
        rw [z1]
        simp only [List.mem_cons, List.not_mem_nil, or_false, not_or]
        exact ⟨Nat.ne_of_lt (Nat.lt_succ_self _), Nat.ne_of_gt lS⟩
      have val : ∀ (i : Nat) (v : Value), items[i]? = some v → ∃ p, ks[i]? = some p ∧ v = .ref p.1 := fun i v hv => by
        have q : items.toList[i]? = some v := by rw [Array.getElem?_toList]; exact hv
        rw [hit, List.getElem?_map] at q
        cases e : ks[i]? with
        | none => rw [e] at q; cases q
        | some p =>
          rw [e] at q
          exact ⟨p, rfl, (Option.some.inj q).symm⟩
      refine set_update_tups ((Walks.tuple h3' _ l nI items).toS) s.heap.objs.size nS ks hn hfew val s.heap hk (gone _ (Nat.le_refl _)) (fun b hb => gone b (by rw [List.mem_singleton.mp hb, z1]; omega)) hu (items.size - 0) 0 _ (by omega) (Nat.zero_le _)
        ⟨⟨_, Heap.get?_push_size _ rfl, rfl, rfl⟩, hl1.push _⟩ (fun b o e => Heap.get?_push_of_some _ (Heap.get?_push_of_some _ e)) ⟨[], #[], 0, _, setTR_fresh (Heap.get?_push_of_some _ hS), Got.zero ks⟩ fun s' L es ep t hm hS' g' kp => ?_
      obtain ⟨h', g2, d', tk', os'⟩ := s'
      have e1 : g2 = s.gens := hm.gens
      have e2 : d' = s.drawn := hm.drawn
      have e3 : os' = s.os := hm.os
      subst e1 e2 e3
      show wpAny _ _ _ _ _ _
      refine wpAny_pure ?_
      show wpAny _ _ (ret Value.none) _ _ _
      rw [hn] at g'
      exact wpAny_pure ⟨rfl, h', tk', L, es, ep, t, rfl, hS', g', kp⟩
    · match r2, hr2 with
      | .error e, hr2 => exact hr2
      | .ok (.ret v), hr2 =>
        obtain ⟨rfl, q⟩ := hr2
        repeat (any_goals (first | assumption | wp_step))
        exact h _ q
  | .ok (.next), hr => exact hr.elim
end
end L2

set_option maxHeartbeats 2000000
/-! len(set(t)), t a tuple of tuples of ints that are all unlike -/
namespace L2
open PySem PySem.Spec PyProof.Rows
theorem nodup_len {α : Type} [DecidableEq α] : ∀ {xs ys : List α}, xs.Nodup → (∀ x ∈ xs, x ∈ ys) → xs.length ≤ ys.length
  | [], _, _, _ => Nat.zero_le _
  | x :: xs, ys, h, q => by
    obtain ⟨h1, h2⟩ := List.nodup_cons.mp h
    have hx := q x List.mem_cons_self
    have ih := nodup_len (ys := ys.erase x) h2 fun z hz => (List.mem_erase_of_ne (fun e => h1 (by rw [← e]; exact hz))).mpr (q z (List.mem_cons_of_mem _ hz))
    rw [List.length_erase_of_mem hx] at ih
    have : 0 < ys.length := List.length_pos_of_mem hx
    rw [List.length_cons]
    omega
theorem isTup_of {h : Heap} {l : Addr} {its : Array Value} (q : IsTup h l its) : h.IsTuple l its := q
def tLenSetT (K : PySem.W.Frag) (ta : TE) : TE := fun σ H Q => ta σ H fun x H1 => ∃ (l : Addr) (ks : List (Addr × List Int)), x = V.ref l ∧ SqT K H1 l (ks.map fun p => V.ref p.1) ∧ (∀ p ∈ ks, SqT K H1 p.1 (p.2.map V.int)) ∧ ks.length < 64 ∧ (ks.map (·.2)).Nodup ∧ Q (.int ks.length) H1
theorem pe_lenSetT {X : Cx} {a : Expr} {ta : TE} {p p2 q pos : Pos} (hc : X.calm = true) (hu : X.A.units + 66 < cLine) (hg : Gl X "len") (hm : X.mg "len" = none) (hg2 : Gl X "set") (hm2 : X.mg "set" = none) (ha : PE X a ta)
    (na : starEach [a] X.env = (false, eval a X.env) :: starEach [] X.env := by rfl) : PE X (.Call (.Name "len" p) [.Call (.Name "set" p2) [a] [] q] [] pos) (tLenSetT X.K ta) := by
  refine ⟨fun pins s σ H Q I h => ?_⟩
  refine Call_ (ld_blt I hg hm PySem.boot_len ?_)
  refine PyProof.Rows.callWith_builtin1 (PyProof.Rows.args_cons ?_ rfl) rfl rfl
  refine Call_ (ld_blt I hg2 hm2 PyProof.Rows.boot_set ?_)
  refine PyProof.Rows.callWith_type1 (PyProof.Rows.args_cons (thn (ha.run pins s σ H _ I h) fun v s1 ⟨x, H1, I1, r1, q1⟩ => PyProof.Rows.args_nil ?_) na) na rfl
  obtain ⟨l, ks, rfl, hq, hk, hf, nd, q1⟩ := q1
  cases r1
  obtain ⟨its, rv, ht, hz⟩ := I1.tuple hq
  refine call_setT (P := X.prog) (w := X.w) ks (I1.ok.hd hc) (isTup_of ht) (by simpa using refs_of_vals rv) (fun p hp => I1.isT (hk p hp)) hf (by omega) fun s2 hd => ?_
  obtain ⟨h', tk, L, es, ep, t, rfl, R, g, kp⟩ := hd
  refine PyProof.Rows.args_nil ?_
  have I2 : Inv X pins σ H1 { s1 with heap := h', toks := tk } := I1.kept fun b o e => kp b o e
  obtain ⟨o, ho, hex, hdd⟩ := R.ob
  have len : L.length = ks.length := by
    refine Nat.le_antisymm g.len ?_
    have q := nodup_len (ys := L.map (·.2)) nd fun k hk' => by
      obtain ⟨p, hp, rfl⟩ := List.mem_map.mp hk'
      exact g.all p (by rw [List.take_length]; exact hp)
    rw [List.length_map, List.length_map] at q
    exact q
  have sz : es.size = ks.length := (SetTR.size (s := { s1 with heap := h', toks := tk }) R).trans len
  refine call_len_set (s := { s1 with heap := h', toks := tk }) ho hex hdd (SetTR.fits (s := { s1 with heap := h', toks := tk }) R) (by rw [sz]; omega) ⟨.int ks.length, H1, I2.tok _, ⟨_, by rw [sz]⟩, q1⟩
namespace G
/-- a tuple of tuples of ints, all unlike, fewer than 64 -/
def LenS : D → Prop
  | .tup ds => ∃ nss, tups? ds = some nss ∧ nss.Nodup ∧ nss.length < 64
  | _ => False
def lenD : D → Int
  | .tup ds => ds.length
  | _ => 0
def dLenSet (fe : dE) : dE := fun ρ T k => fe ρ T fun x T1 => LenS x ∧ k (.int (lenD x)) T1
theorem h_lenSet {fe : dE} {ρ : En} {T : Tk} {k : KD} : dLenSet fe ρ T k = fe ρ T fun x T1 => LenS x ∧ k (.int (lenD x)) T1 := propext Iff.rfl
theorem d_lenSet {X : Cx} {a : Expr} {fe : dE} {p p2 q pos : Pos} (hc : X.calm = true) (hu : X.A.units + 66 < cLine) (hm : X.mg "len" = none) (hm2 : X.mg "set" = none) (ha : PEd X a fe) (hg : Gl X "len" := by rfl) (hg2 : Gl X "set" := by rfl)
    (na : starEach [a] X.env = (false, eval a X.env) :: starEach [] X.env := by rfl) : PEd X (.Call (.Name "len" p) [.Call (.Name "set" p2) [a] [] q] [] pos) (dLenSet fe) := by
  refine pe_imp (pe_lenSetT hc hu hg hm hg2 hm2 ha na) fun σ H Q h => ?_
  obtain ⟨ρ, T, t, F, k, w, h, f⟩ := h
  refine ⟨ρ, T, t, F, _, w, h, fun v H1 F1 x T1 w1 g1 r1 h1 => ?_⟩
  have f1 := f.then g1
  obtain ⟨hl, hk⟩ := h1
  match x, hl, hk, r1 with
  | .tup ds, hl, hk, r1 =>
    obtain ⟨nss, hn, nd, lt⟩ := hl
    obtain ⟨b, ws, rfl, hb, hr⟩ := rep_tup r1
    have el := hr.len
    obtain ⟨L, rfl, eL, hL⟩ := tups_rep hr hn
    refine ⟨b, L, rfl, same_t w1.sub hb, fun y hy => same_t w1.sub (hL y hy), by rw [eL, List.length_map] at lt; exact lt, by rw [← eL]; exact nd, ?_⟩
    rw [List.length_map] at el
    rw [← el]
    exact f1.val w1 (.int _) hk
end G
end L2

set_option maxHeartbeats 2000000
/-! min(t, u) of two tuples of ints -/
namespace L2
open PySem PySem.Spec PyProof.Rows
section
variable {prog : Program} {w : World} {A : Around} {R : Result → Shared → Prop} {I : Addr} {fp wr : List Addr} {n : Nat} {P : Nat → Value → Prop} {St : Nat → Heap → Prop} {h0 : Heap}
/-- every object of a heap stands in another one -/
def Has (h0 h : Heap) : Prop := ∀ b o, h0.get? b = some o → h.get? b = some o
/-- `<` tells of the things walked what bt says, as long as a heap's objects are there -/
def CmpH (prog : Program) (w : World) (A : Around) (h0 : Heap) (P : Nat → Value → Prop) (bt : Nat → Nat → Bool) : Prop :=
  ∀ i j vi vj (s : Shared) (Q : Value → Shared → Prop) (E : Value → Shared → Prop), j < i → Has h0 s.heap → P i vi → P j vj → Q (.bool (bt i j)) s → wpAny (model prog w) A (richCompare .Lt vi vj) Q E s
theorem argBest_le (bt : Nat → Nat → Bool) : ∀ k, argBest bt k ≤ k
  | 0 => Nat.le_refl _
  | k + 1 => by
    unfold argBest
    split
    · exact Nat.le_refl _
    · exact Nat.le_succ_of_le (argBest_le bt k)
theorem min_loopH (W : Walks prog w A.in1 I fp wr n P St) (bt : Nat → Nat → Bool) (hcmp : CmpH prog w A.in1 h0 P bt) (S : Addr) (hSf : S ∉ fp) (hw0 : ∀ b ∈ wr, h0.get? b = none) (hS0 : h0.get? S = none) :
    ∀ (k j : Nat) (s : Shared) (vb : Value) (c : Nat), n - (j + 1) = k → j + 1 ≤ n → Has h0 s.heap → St (j + 1) s.heap → P (argBest bt j) vb →
    s.heap.get? S = some { cls := .type "list", dict := none, data := .seq #[vb, vb] c, slots := #[] } →
    (∀ v h' tk, P (argBest bt (n - 1)) v → (∀ b o, b ∉ wr → b ≠ S → s.heap.get? b = some o → h'.get? b = some o) → R (.ok (.ret v)) { s with heap := h', toks := tk }) →
    codeAny (model prog w) A (.builtin "min.loop" ⟨[.ref I, .none, .ref S], []⟩) R s := by
  have hSw : S ∉ wr := fun h => hSf (W.sub _ h)
  have hname : (toString "min" ++ toString ".loop" : String) = "min.loop" := by decide
  have old : ∀ b o, h0.get? b = some o → b ∉ wr ∧ b ≠ S := fun b o e => ⟨fun hm => (by rw [hw0 b hm] at e; cases e), fun hb => (by rw [hb, hS0] at e; cases e)⟩
  intro k
  induction k with
  | zero =>
    intro j s vb c hk hj h0s hst hPb hS hR
    have hin : j + 1 = n := by omega
    refine codeAny_builtin F.entry_min_loop ?_
    rw [Around.under_plainId F.plain_min_loop _]
    show wpAny _ A.in1 (seqItems? (.ref S) >>= _) _ _ s
    refine wpAny_bind (wpAny_seqItems hS rfl ?_)
    show wpAny _ A.in1 (tryCatch (pyNext (.ref I)) _ >>= _) _ _ s
    refine wpAny_bind (wpAny_tryCatch (W.done s _ _ (hin ▸ hst) fun h' tk hk' => ?_))
    have hS' := hk' S _ hSw hS
    show wpAny _ A.in1 (updateSeq S (fun _ => #[]) >>= _) _ _ _
    refine wpAny_bind ?_
    refine wpAny_updateSeq hS' rfl (wpAny_bind (wpAny_letGo (wpAny_pure ?_)))
    refine hR vb _ tk (by rw [← hin]; exact hPb) fun b o hbw hbS e => (Heap.get?_update_other _ _ (Ne.symm hbS)).trans (hk' b o hbw e)
  | succ k ih =>
    intro j s vb c hk hj h0s hst hPb hS hR
    have hlt : j + 1 < n := by omega
    refine codeAny_builtin F.entry_min_loop ?_
    rw [Around.under_plainId F.plain_min_loop _]
    show wpAny _ A.in1 (seqItems? (.ref S) >>= _) _ _ s
    refine wpAny_bind (wpAny_seqItems hS rfl ?_)
    show wpAny _ A.in1 (tryCatch (pyNext (.ref I)) _ >>= _) _ _ s
    refine wpAny_bind (wpAny_tryCatch (W.item (j + 1) s _ _ hlt hst fun v h' tk hP hst' hk' => ?_))
    have hS' := hk' S _ hSw hS
    have h0' : Has h0 h' := fun b o e => hk' b o (old b o e).1 (h0s b o e)
    show wpAny _ A.in1 (tryCatch (holding [v, v] (richCompare .Lt v vb >>= _)) _ >>= _) _ _ _
    refine wpAny_bind (wpAny_tryCatch (wpAny_holding (wpAny_bind (hcmp (j + 1) (argBest bt j) v vb _ _ _ (Nat.lt_succ_of_le (argBest_le bt j)) h0' hP hPb ?_))))
    refine wpAny_bind (wpAny_holding (wpAny_truthy_bool ?_))
    refine wpAny_bind (wpAny_letGo (wpAny_pure ?_))
    cases hb : bt (j + 1) (argBest bt j) with
    | true =>
      simp only [if_true]
      refine wpAny_bind ?_
      refine wpAny_updateSeq hS' rfl (wpAny_bind (wpAny_letGo ?_))
      rw [hname]
      refine wpAny_pure ⟨plainId_quiet F.plain_min_loop _, ih (j + 1) _ v _ (by omega) hlt (fun b o e => (Heap.get?_update_other _ _ (Ne.symm (old b o e).2)).trans (h0' b o e)) (W.frame _ _ _ hst' fun b hbf o e => ?_) (by simp only [argBest, hb, if_true]; exact hP) (Heap.get?_update_self _ hS' rfl)
        fun v' h'' tk'' hP' hk'' => ?_⟩
      · exact (Heap.get?_update_other _ _ (fun h : S = b => hSf (by rw [h]; exact hbf))).trans e
      · exact hR v' h'' tk'' hP' fun b o hbw hbS e => hk'' b o hbw hbS ((Heap.get?_update_other _ _ (Ne.symm hbS)).trans (hk' b o hbw e))
    | false =>
      simp only [Bool.false_eq_true, if_false]
      refine wpAny_bind (wpAny_letGo ?_)
      rw [hname]
      refine wpAny_pure ⟨plainId_quiet F.plain_min_loop _, ih (j + 1) _ vb c (by omega) hlt h0' hst' (by simp only [argBest, hb, Bool.false_eq_true, if_false]; exact hPb) hS' fun v' h'' tk'' hP' hk'' => ?_⟩
      exact hR v' h'' tk'' hP' fun b o hbw hbS e => hk'' b o hbw hbS (hk' b o hbw e)
theorem min_loopH_first (W : Walks prog w A.in1 I fp wr n P St) (bt : Nat → Nat → Bool) (hcmp : CmpH prog w A.in1 h0 P bt) (S : Addr) (hSf : S ∉ fp) (hw0 : ∀ b ∈ wr, h0.get? b = none) (hS0 : h0.get? S = none) (hn : 0 < n) {s : Shared} {c : Nat} (h0s : Has h0 s.heap) (hst : St 0 s.heap)
    (hS : s.heap.get? S = some { cls := .type "list", dict := none, data := .seq #[] c, slots := #[] })
    (hR : ∀ v h' tk, P (argBest bt (n - 1)) v → (∀ b o, b ∉ wr → b ≠ S → s.heap.get? b = some o → h'.get? b = some o) → R (.ok (.ret v)) { s with heap := h', toks := tk }) :
    codeAny (model prog w) A (.builtin "min.loop" ⟨[.ref I, .none, .ref S], []⟩) R s := by
  have hSw : S ∉ wr := fun h => hSf (W.sub _ h)
  have hname : (toString "min" ++ toString ".loop" : String) = "min.loop" := by decide
  have old : ∀ b o, h0.get? b = some o → b ∉ wr ∧ b ≠ S := fun b o e => ⟨fun hm => (by rw [hw0 b hm] at e; cases e), fun hb => (by rw [hb, hS0] at e; cases e)⟩
  refine codeAny_builtin F.entry_min_loop ?_
  rw [Around.under_plainId F.plain_min_loop _]
  show wpAny _ A.in1 (seqItems? (.ref S) >>= _) _ _ s
  refine wpAny_bind (wpAny_seqItems hS rfl ?_)
  show wpAny _ A.in1 (tryCatch (pyNext (.ref I)) _ >>= _) _ _ s
  refine wpAny_bind (wpAny_tryCatch (W.item 0 s _ _ hn hst fun v h' tk hP hst' hk' => ?_))
  have hS' := hk' S _ hSw hS
  have h0' : Has h0 h' := fun b o e => hk' b o (old b o e).1 (h0s b o e)
  show wpAny _ A.in1 (updateSeq S (fun _ => #[v, v]) >>= _) _ _ _
  refine wpAny_bind ?_
  refine wpAny_updateSeq hS' rfl ?_
  rw [hname]
  refine wpAny_pure ⟨plainId_quiet F.plain_min_loop _, min_loopH W bt hcmp S hSf hw0 hS0 _ 0 _ v _ rfl hn (fun b o e => (Heap.get?_update_other _ _ (Ne.symm (old b o e).2)).trans (h0' b o e)) (W.frame _ _ _ hst' fun b hbf o e => ?_) hP (Heap.get?_update_self _ hS' rfl) fun v' h'' tk'' hP' hk'' => ?_⟩
  · exact (Heap.get?_update_other _ _ (fun h : S = b => hSf (by rw [h]; exact hbf))).trans e
  · exact hR v' h'' tk'' hP' fun b o hbw hbS e => hk'' b o hbw hbS ((Heap.get?_update_other _ _ (Ne.symm hbS)).trans (hk' b o hbw e))
end
section
variable {prog : Program} {w : World} {A : Around} {E : Value → Shared → Prop} {s : Shared}
/-- min(a, b), told by one comparison that needs the heap's objects alone -/
theorem call_minH {a b : Value} {bt : Bool} {Q : Value → Shared → Prop} (hh : A.handled = none)
    (hc : ∀ (s' : Shared) (Q : Value → Shared → Prop) (E : Value → Shared → Prop), Has s.heap s'.heap → Q (.bool bt) s' → wpAny (model prog w) A.in1 (richCompare .Lt b a) Q E s')
    (h : ∀ h' tk, Has s.heap h' → Q (if bt = true then b else a) { s with heap := h', toks := tk }) :
    wpAny (model prog w) A (call (.builtin "min") [a, b]) Q E s := by
  have hname : (toString "min" ++ toString ".loop" : String) = "min.loop" := by decide
  refine call_function_tree F.kind_min F.plain_min F.entry_min (F.args_min2 _ _) ?_
  show wpAny _ A.in1 (Builtin.Builtins.bindParams "min" ["key", "default"] 0 ⟨[], []⟩ >>= _) _ _ s
  refine wpAny_bind (wpAny_of_eq (show Builtin.Builtins.bindParams "min" ["key", "default"] 0 ⟨[], []⟩ = pure [none, none] from rfl) ?_)
  show wpAny _ A.in1 (newTuple [a, b] >>= _) _ _ s
  refine wpAny_bind (wpAny_newObj_type ?_)
  have z1 : (s.heap.push { cls := .type "tuple", data := .seq #[a, b] }).objs.size = s.heap.objs.size + 1 := Heap.size_push ..
  have hT : (s.heap.push { cls := .type "tuple", data := .seq #[a, b] }).IsTuple s.heap.objs.size #[a, b] := ⟨_, Heap.get?_push_size _ rfl, rfl, 0, rfl⟩
  refine wpAny_bind (wpAny_pyIter_tuple hT ?_)
  refine wpAny_bind (wpAny_newObj_type ?_)
  have z2 : ∀ o1 o2 : Obj, ((s.heap.push o1).push o2).objs.size = s.heap.objs.size + 2 := fun o1 o2 => by rw [Heap.size_push, Heap.size_push]
  have nn : ∀ n : Nat, n + 2 ≠ n + 1 ∧ n + 2 ≠ n ∧ ¬ n + 1 < n ∧ ∀ c, c < n → c ≠ n + 2 := fun n => ⟨by omega, by omega, by omega, fun c h => by omega⟩
  have gone : ∀ c, s.heap.objs.size ≤ c → s.heap.get? c = none := fun c hc => by
    cases q : s.heap.get? c with
    | none => rfl
    | some o => exact absurd (Heap.lt_size q) (Nat.not_lt.mpr hc)
  rw [hname]
  have nI : s.heap.objs.size ≠ (s.heap.push { cls := .type "tuple", data := .seq #[a, b] }).objs.size := by rw [z1]; exact Nat.ne_of_lt (Nat.lt_succ_self _)
  have W := Walks.tuple (prog := prog) (w := w) (A := A.in1) (by simpa using hh) _ s.heap.objs.size nI #[a, b]
  refine wpAny_pure ⟨plainId_quiet F.plain_min_loop _, min_loopH_first (h0 := s.heap) W (fun i j => if i = 1 ∧ j = 0 then bt else false) ?_ _ ?_ ?_ ?_ (Nat.zero_lt_succ _) (fun c o e => Heap.get?_push_of_some _ (Heap.get?_push_of_some _ (Heap.get?_push_of_some _ e))) ?_ (Heap.get?_push_size _ rfl) fun v h' tk hP hk => ?_⟩
  · intro i j vi vj s' Q' E' ij hs hi hj hq
    have li : i < 2 := by
      rcases Nat.lt_or_ge i 2 with o | o
      · exact o
      · rw [Array.getElem?_eq_none (by simpa using o)] at hi
        cases hi
    obtain rfl : i = 1 := by omega
    obtain rfl : j = 0 := by omega
    cases hi
    cases hj
    exact hc s' Q' E' hs hq
  · simp only [List.mem_cons, List.not_mem_nil, or_false, not_or]
    rw [z2, z1]
    exact ⟨(nn _).1, (nn _).2.1⟩
  · intro c hc
    rw [List.mem_singleton.mp hc, z1]
    exact gone _ (Nat.le_succ _)
  · rw [z2]
    exact gone _ (Nat.le_add_right _ 2)
  · exact ⟨⟨_, Heap.get?_push_of_some _ (Heap.get?_push_size _ rfl), rfl, rfl⟩, (hT.push _).push _⟩
  · have hold : Has s.heap h' := fun c o e => by
      refine hk c o (fun hm => ?_) ?_ (Heap.get?_push_of_some _ (Heap.get?_push_of_some _ (Heap.get?_push_of_some _ e)))
      · have := Heap.lt_size e
        rw [List.mem_singleton.mp hm, z1] at this
        exact (nn _).2.2.1 this
      · have := Heap.lt_size e
        rw [z2]
        exact (nn _).2.2.2 _ this
    have hv : v = if bt = true then b else a := by
      have e : argBest (fun i j => if i = 1 ∧ j = 0 then bt else false) (#[a, b].size - 1) = if bt = true then 1 else 0 := by
        show argBest _ (0 + 1) = _
        unfold argBest
        simp only [argBest, Nat.zero_add, and_self, if_true]
      rw [e] at hP
      cases bt
      · rw [if_neg (by decide)] at hP ⊢
        exact (Option.some.inj hP).symm
      · rw [if_pos rfl] at hP ⊢
        exact (Option.some.inj hP).symm
    have := h h' tk hold
    rw [hv]
    exact this
theorem isTup_has {h h' : Heap} {l : Addr} {its : Array Value} (k : Has h h') (q : IsTup h l its) : IsTup h' l its := by
  obtain ⟨o, ho, r⟩ := q
  exact ⟨o, k _ _ ho, r⟩
def rMinT (K : PySem.W.Frag) : List V → Hp → VK → Prop := fun xs H Q => ∃ (a b : Addr) (ns ms : List Int), xs = [.ref a, .ref b] ∧ SqT K H a (ns.map V.int) ∧ SqT K H b (ms.map V.int) ∧ Q (.ref (if HT.lexLt ms ns = true then b else a)) H
theorem call_min2T {X : Cx} (hc : X.calm = true) (hu : X.A.units + 66 < cLine) : CallR X (.builtin "min") (rMinT X.K) := by
  intro pins s σ H xs us Q I r h
  obtain ⟨a, b, ns, ms, rfl, ha, hb, q⟩ := h
  obtain ⟨u, w', rfl, r1, r2⟩ := vals2 r
  cases r1
  cases r2
  obtain ⟨its, v1, p1, _⟩ := I.tuple ha
  obtain ⟨its2, v2, p2, _⟩ := I.tuple hb
  have i1 : IntsAre its.toArray.toList ns := intsAre_of v1
  have i2 : IntsAre its2.toArray.toList ms := intsAre_of v2
  refine call_minH (bt := HT.lexLt ms ns) (I.ok.hd hc) (fun s' Q' E' hs hq => ?_) fun h' tk k => ?_
  · exact HT.lt_tupInts (isTup_has hs p2) (isTup_has hs p1) i2 i1 (by simp only [PySem.Around.in1_units]; omega) hq
  · refine ⟨_, H, I.kept k, ?_, q⟩
    split
    · exact rfl
    · exact rfl
end
namespace G
def mnT (xs ys : List D) : Option (List Int) → Option (List Int) → PD
  | some a, some b => some (True, if HT.lexLt b a = true then .tup ys else .tup xs)
  | _, _ => none
def fMinT : List D → PD
  | [.tup xs, .tup ys] => mnT xs ys (nums? xs) (nums? ys)
  | _ => none
theorem fMinT_tup {xs ys : List D} : fMinT [.tup xs, .tup ys] = mnT xs ys (nums? xs) (nums? ys) := rfl
theorem mnT_some {xs ys : List D} {a b : List Int} : mnT xs ys (some a) (some b) = some (True, if HT.lexLt b a = true then .tup ys else .tup xs) := rfl
theorem fMinT_ok {K : PySem.W.Frag} : BltS K (rMinT K) (oG fMinT) := by
  intro t F H T ds vs k Q wt r q f
  unfold oG fMinT at q
  split at q
  · rename_i p e
    split at e
    · rename_i xs ys
      cases r with
      | cons r1 rr =>
        cases rr with
        | cons r2 rr =>
          cases rr
          obtain ⟨a, ws, rfl, h1, e1⟩ := rep_tup r1
          obtain ⟨b, us, rfl, h2, e2⟩ := rep_tup r2
          cases m1 : nums? xs with
          | none => rw [m1] at e; cases e
          | some ns =>
            cases m2 : nums? ys with
            | none => rw [m1, m2] at e; cases e
            | some ms =>
              rw [m1, m2] at e
              cases e
              have e1' := e1
              have e2' := e2
              rw [nums_some m1] at e1'
              rw [nums_some m2] at e2'
              have z1 := nums_inv e1'
              have z2 := nums_inv e2'
              subst z1 z2
              refine ⟨a, b, ns, ms, rfl, same_t wt.sub h1, same_t wt.sub h2, ?_⟩
              have q2 := q.2
              by_cases c : HT.lexLt ms ns = true
              · rw [if_pos c] at q2 ⊢
                exact f.val wt r2 q2
              · rw [if_neg c] at q2 ⊢
                exact f.val wt r1 q2
    · cases e
  · exact q.elim
theorem g_min2T {X : Cx} {e : Expr} {fr : dA} {p pos : Pos} {es : List Expr} (hc : X.calm = true) (hu : X.A.units + 66 < cLine) (hm : X.mg "min" = none) (ha : PAd X (e :: es) fr) (hg : Gl X "min" := by rfl)
    (he : starEach (e :: es) X.env = (false, eval e X.env) :: starEach es X.env := by rfl) (hp : (backTo pos (starEach es X.env)).any (·.1) = false := by rfl) : PEd X (.Call (.Name "min" p) (e :: es) [] pos) (dBlt (oG fMinT) fr) := d_blt (call_min2T hc hu) fMinT_ok hm ha boot_min' hg (by decide) (by decide) he hp
end G
end L2

namespace L2.G
open PySem PySem.Spec PyProof.Rows
def topS (i : Nat) : Stmt := PySem.Challenge.pw_drawarms_k64_whole_chains_that_never_clo.main.body.getD i (.Pass ⟨0, 0, 0, 0⟩)
def k_MOST_LINKS : D := (.int 12)
def t_COUNTS : List (List Int × Int) := [([49, 1], 3), ([9, 1], 4), ([25, 9], 6)]
abbrev st_is_whole : Stmt := topS 9
theorem sc_is_whole : FnScope ["value"] ["value"] (defScope st_is_whole) := ⟨rfl, rfl, rfl, by decide +kernel, rfl, by decide +kernel, by decide +kernel⟩
def b_is_whole : dS := sRet (dAndV (dIsi .int (dVar 0)) (dNotV (dIsi .bool (dVar 0))))
def sm_is_whole : Sem := semOf ["value"] b_is_whole
theorem e_is_whole (a0 : SV) (T : Tk) (k : KD) : sm_is_whole [a0] T k = b_is_whole { nx := fun _ T => k .non T, rt := k, bk := fun _ _ => False, ct := fun _ _ => False } [some a0] T := rfl
abbrev st_is_between : Stmt := topS 10
theorem sc_is_between : FnScope ["value", "low", "high"] ["value", "low", "high"] (defScope st_is_between) := ⟨rfl, rfl, rfl, by decide +kernel, rfl, by decide +kernel, by decide +kernel⟩
def b_is_between : dS := sRet (dAndV (dCall 1 sm_is_whole (aCons (dVar 0) (aNil))) (dAndV (dOp (oF fLe) (dVar 1) (dVar 0)) (dOp (oF fLe) (dVar 0) (dVar 2))))
def sm_is_between : Sem := semOf ["value", "low", "high"] b_is_between
theorem e_is_between (a0 a1 a2 : SV) (T : Tk) (k : KD) : sm_is_between [a0, a1, a2] T k = b_is_between { nx := fun _ T => k .non T, rt := k, bk := fun _ _ => False, ct := fun _ _ => False } [some a0, some a1, some a2] T := rfl
abbrev st_are_wholes : Stmt := topS 11
theorem sc_are_wholes : FnScope ["value", "many", "number"] ["value", "many"] (defScope st_are_wholes) := ⟨rfl, rfl, rfl, by decide +kernel, rfl, by decide +kernel, by decide +kernel⟩
def b_are_wholes : dS := sRet (dAndV (dIsi .tuple (dVar 0)) (dAndV (dOp (oF fEq) (dBlt (oG fLen) (aCons (dVar 0) (aNil))) (dVar 1)) (dBlt (oG fAll) (aCons (dLc [2] (iQ (dVar 0)) (cN 2) dYes (dCall 1 sm_is_whole (aCons (dVar 2) (aNil)))) (aNil)))))
def sm_are_wholes : Sem := semOf ["value", "many", "number"] b_are_wholes
theorem e_are_wholes (a0 a1 : SV) (T : Tk) (k : KD) : sm_are_wholes [a0, a1] T k = b_are_wholes { nx := fun _ T => k .non T, rt := k, bk := fun _ _ => False, ct := fun _ _ => False } [some a0, some a1, none] T := rfl
abbrev st_divisor_of : Stmt := topS 12
theorem sc_divisor_of : FnScope ["numbers", "found", "number"] ["numbers"] (defScope st_divisor_of) := ⟨rfl, rfl, rfl, by decide +kernel, rfl, by decide +kernel, by decide +kernel⟩
def b_divisor_of : dS := sSeq (sAsg (dC (.int 0)) (gN 1)) (sSeq (sForI (iQ (dVar 0)) (gN 2) (sAsg (dBlt (oG (fI2 iGcd)) (aCons (dVar 1) (aCons (dVar 2) (aNil)))) (gN 1))) (sRet (dVar 1)))
def sm_divisor_of : Sem := semOf ["numbers", "found", "number"] b_divisor_of
theorem e_divisor_of (a0 : SV) (T : Tk) (k : KD) : sm_divisor_of [a0] T k = b_divisor_of { nx := fun _ T => k .non T, rt := k, bk := fun _ _ => False, ct := fun _ _ => False } [some a0, none, none] T := rfl
abbrev st_lowest : Stmt := topS 13
theorem sc_lowest : FnScope ["numbers", "divisor", "number"] ["numbers"] (defScope st_lowest) := ⟨rfl, rfl, rfl, by decide +kernel, rfl, by decide +kernel, by decide +kernel⟩
def b_lowest : dS := sSeq (sAsg (dCall 1 sm_divisor_of (aCons (dVar 0) (aNil))) (gN 1)) (sRet (dBlt (oG fTuple) (aCons (dLc [2] (iQ (dVar 0)) (cN 2) dYes (dOp (oF fDiv) (dVar 2) (dVar 1))) (aNil))))
def sm_lowest : Sem := semOf ["numbers", "divisor", "number"] b_lowest
theorem e_lowest (a0 : SV) (T : Tk) (k : KD) : sm_lowest [a0] T k = b_lowest { nx := fun _ T => k .non T, rt := k, bk := fun _ _ => False, ct := fun _ _ => False } [some a0, none, none] T := rfl
abbrev st_is_lowest : Stmt := topS 14
theorem sc_is_lowest : FnScope ["numbers"] ["numbers"] (defScope st_is_lowest) := ⟨rfl, rfl, rfl, by decide +kernel, rfl, by decide +kernel, by decide +kernel⟩
def b_is_lowest : dS := sRet (dOp (oF fEq) (dCall 1 sm_divisor_of (aCons (dVar 0) (aNil))) (dC (.int 1)))
def sm_is_lowest : Sem := semOf ["numbers"] b_is_lowest
theorem e_is_lowest (a0 : SV) (T : Tk) (k : KD) : sm_is_lowest [a0] T k = b_is_lowest { nx := fun _ T => k .non T, rt := k, bk := fun _ _ => False, ct := fun _ _ => False } [some a0] T := rfl
abbrev st_is_led_up : Stmt := topS 15
theorem sc_is_led_up : FnScope ["numbers", "number"] ["numbers"] (defScope st_is_led_up) := ⟨rfl, rfl, rfl, by decide +kernel, rfl, by decide +kernel, by decide +kernel⟩
def b_is_led_up : dS := sSeq (sForI (iQ (dVar 0)) (gN 1) (sIf (dTst (dOp (oF fNe) (dVar 1) (dC (.int 0)))) (sRet (dOp (oF fGt) (dVar 1) (dC (.int 0)))) ((fun k ρ T => k.nx ρ T)))) (sRet (dC (.bl false)))
def sm_is_led_up : Sem := semOf ["numbers", "number"] b_is_led_up
theorem e_is_led_up (a0 : SV) (T : Tk) (k : KD) : sm_is_led_up [a0] T k = b_is_led_up { nx := fun _ T => k .non T, rt := k, bk := fun _ _ => False, ct := fun _ _ => False } [some a0, none] T := rfl
abbrev st_first_above : Stmt := topS 16
theorem sc_first_above : FnScope ["numbers", "found", "number"] ["numbers"] (defScope st_first_above) := ⟨rfl, rfl, rfl, by decide +kernel, rfl, by decide +kernel, by decide +kernel⟩
def b_first_above : dS := sSeq (sAsg (dCall 1 sm_lowest (aCons (dVar 0) (aNil))) (gN 1)) (sRet (dIf (dTst (dCall 1 sm_is_led_up (aCons (dVar 1) (aNil)))) (dVar 1) (dBlt (oG fTuple) (aCons (dLc [2] (iQ (dVar 1)) (cN 2) dYes (dNeg (dVar 2))) (aNil)))))
def sm_first_above : Sem := semOf ["numbers", "found", "number"] b_first_above
theorem e_first_above (a0 : SV) (T : Tk) (k : KD) : sm_first_above [a0] T k = b_first_above { nx := fun _ T => k .non T, rt := k, bk := fun _ _ => False, ct := fun _ _ => False } [some a0, none, none] T := rfl
abbrev st_fraction : Stmt := topS 17
theorem sc_fraction : FnScope ["number", "below"] ["number", "below"] (defScope st_fraction) := ⟨rfl, rfl, rfl, by decide +kernel, rfl, by decide +kernel, by decide +kernel⟩
def b_fraction : dS := sRet (dIf (dTst (dOp (oF fGt) (dVar 1) (dC (.int 0)))) (dCall 1 sm_lowest (aCons (dTup (aCons (dVar 0) (aCons (dVar 1) (aNil)))) (aNil))) (dCall 1 sm_lowest (aCons (dTup (aCons (dNeg (dVar 0)) (aCons (dNeg (dVar 1)) (aNil)))) (aNil))))
def sm_fraction : Sem := semOf ["number", "below"] b_fraction
theorem e_fraction (a0 a1 : SV) (T : Tk) (k : KD) : sm_fraction [a0, a1] T k = b_fraction { nx := fun _ T => k .non T, rt := k, bk := fun _ _ => False, ct := fun _ _ => False } [some a0, some a1] T := rfl
abbrev st_bend : Stmt := topS 19
theorem sc_bend : FnScope ["row"] ["row"] (defScope st_bend) := ⟨rfl, rfl, rfl, by decide +kernel, rfl, by decide +kernel, by decide +kernel⟩
def b_bend : dS := sRet (dOp (oF fSub) (dOp (oF fAdd) (dOp (oF fMul) (dOp (oF fIx) (dVar 0) (dC (.int 1))) (dOp (oF fIx) (dVar 0) (dC (.int 1)))) (dOp (oF fMul) (dOp (oF fIx) (dVar 0) (dC (.int 2))) (dOp (oF fIx) (dVar 0) (dC (.int 2))))) (dOp (oF fMul) (dOp (oF fMul) (dC (.int 4)) (dOp (oF fIx) (dVar 0) (dC (.int 0)))) (dOp (oF fIx) (dVar 0) (dC (.int 3)))))
def sm_bend : Sem := semOf ["row"] b_bend
theorem e_bend (a0 : SV) (T : Tk) (k : KD) : sm_bend [a0] T k = b_bend { nx := fun _ T => k .non T, rt := k, bk := fun _ _ => False, ct := fun _ _ => False } [some a0] T := rfl
abbrev st_is_row : Stmt := topS 20
theorem sc_is_row : FnScope ["value"] ["value"] (defScope st_is_row) := ⟨rfl, rfl, rfl, by decide +kernel, rfl, by decide +kernel, by decide +kernel⟩
def b_is_row : dS := sRet (dAndV (dCall 2 sm_are_wholes (aCons (dVar 0) (aCons (dC (.int 4)) (aNil)))) (dAndV (dCall 1 sm_is_lowest (aCons (dVar 0) (aNil))) (dOp (oF fGt) (dCall 1 sm_bend (aCons (dVar 0) (aNil))) (dC (.int 0)))))
def sm_is_row : Sem := semOf ["value"] b_is_row
theorem e_is_row (a0 : SV) (T : Tk) (k : KD) : sm_is_row [a0] T k = b_is_row { nx := fun _ T => k .non T, rt := k, bk := fun _ _ => False, ct := fun _ _ => False } [some a0] T := rfl
abbrev st_is_round : Stmt := topS 21
theorem sc_is_round : FnScope ["value"] ["value"] (defScope st_is_round) := ⟨rfl, rfl, rfl, by decide +kernel, rfl, by decide +kernel, by decide +kernel⟩
def b_is_round : dS := sRet (dAndV (dCall 1 sm_is_row (aCons (dVar 0) (aNil))) (dCall 1 sm_is_led_up (aCons (dVar 0) (aNil))))
def sm_is_round : Sem := semOf ["value"] b_is_round
theorem e_is_round (a0 : SV) (T : Tk) (k : KD) : sm_is_round [a0] T k = b_is_round { nx := fun _ T => k .non T, rt := k, bk := fun _ _ => False, ct := fun _ _ => False } [some a0] T := rfl
abbrev st_check_round : Stmt := topS 22
theorem sc_check_round : FnScope ["value"] ["value"] (defScope st_check_round) := ⟨rfl, rfl, rfl, by decide +kernel, rfl, by decide +kernel, by decide +kernel⟩
def b_check_round : dS := sIf (dNot (dTst (dCall 1 sm_is_round (aCons (dVar 0) (aNil))))) ((fun _ _ _ => False)) ((fun k ρ T => k.nx ρ T))
def sm_check_round : Sem := semOf ["value"] b_check_round
theorem e_check_round (a0 : SV) (T : Tk) (k : KD) : sm_check_round [a0] T k = b_check_round { nx := fun _ T => k .non T, rt := k, bk := fun _ _ => False, ct := fun _ _ => False } [some a0] T := rfl
abbrev st_joint : Stmt := topS 23
theorem sc_joint : FnScope ["row", "other"] ["row", "other"] (defScope st_joint) := ⟨rfl, rfl, rfl, by decide +kernel, rfl, by decide +kernel, by decide +kernel⟩
def b_joint : dS := sRet (dOp (oF fSub) (dOp (oF fAdd) (dOp (oF fMul) (dOp (oF fIx) (dVar 0) (dC (.int 1))) (dOp (oF fIx) (dVar 1) (dC (.int 1)))) (dOp (oF fMul) (dOp (oF fIx) (dVar 0) (dC (.int 2))) (dOp (oF fIx) (dVar 1) (dC (.int 2))))) (dOp (oF fMul) (dC (.int 2)) (dOp (oF fAdd) (dOp (oF fMul) (dOp (oF fIx) (dVar 0) (dC (.int 0))) (dOp (oF fIx) (dVar 1) (dC (.int 3)))) (dOp (oF fMul) (dOp (oF fIx) (dVar 1) (dC (.int 0))) (dOp (oF fIx) (dVar 0) (dC (.int 3)))))))
def sm_joint : Sem := semOf ["row", "other"] b_joint
theorem e_joint (a0 a1 : SV) (T : Tk) (k : KD) : sm_joint [a0, a1] T k = b_joint { nx := fun _ T => k .non T, rt := k, bk := fun _ _ => False, ct := fun _ _ => False } [some a0, some a1] T := rfl
abbrev st_minor : Stmt := topS 24
theorem sc_minor : FnScope ["first", "second", "places", "one", "two"] ["first", "second", "places"] (defScope st_minor) := ⟨rfl, rfl, rfl, by decide +kernel, rfl, by decide +kernel, by decide +kernel⟩
def b_minor : dS := sSeq (sAsg (dVar 2) (gTL 2 (gsCons (gN 3) (gsCons (gN 4) (gsNil))))) (sRet (dOp (oF fSub) (dOp (oF fMul) (dOp (oF fIx) (dVar 0) (dVar 3)) (dOp (oF fIx) (dVar 1) (dVar 4))) (dOp (oF fMul) (dOp (oF fIx) (dVar 0) (dVar 4)) (dOp (oF fIx) (dVar 1) (dVar 3)))))
def sm_minor : Sem := semOf ["first", "second", "places", "one", "two"] b_minor
theorem e_minor (a0 a1 a2 : SV) (T : Tk) (k : KD) : sm_minor [a0, a1, a2] T k = b_minor { nx := fun _ T => k .non T, rt := k, bk := fun _ _ => False, ct := fun _ _ => False } [some a0, some a1, some a2, none, none] T := rfl
abbrev st_determinant_of : Stmt := topS 25
theorem sc_determinant_of : FnScope ["first", "second", "third", "places", "one", "two", "three"] ["first", "second", "third", "places"] (defScope st_determinant_of) := ⟨rfl, rfl, rfl, by decide +kernel, rfl, by decide +kernel, by decide +kernel⟩
def b_determinant_of : dS := sSeq (sAsg (dVar 3) (gTL 3 (gsCons (gN 4) (gsCons (gN 5) (gsCons (gN 6) (gsNil)))))) (sRet (dOp (oF fAdd) (dOp (oF fSub) (dOp (oF fMul) (dOp (oF fIx) (dVar 0) (dVar 4)) (dCall 3 sm_minor (aCons (dVar 1) (aCons (dVar 2) (aCons (dTup (aCons (dVar 5) (aCons (dVar 6) (aNil)))) (aNil)))))) (dOp (oF fMul) (dOp (oF fIx) (dVar 0) (dVar 5)) (dCall 3 sm_minor (aCons (dVar 1) (aCons (dVar 2) (aCons (dTup (aCons (dVar 4) (aCons (dVar 6) (aNil)))) (aNil))))))) (dOp (oF fMul) (dOp (oF fIx) (dVar 0) (dVar 6)) (dCall 3 sm_minor (aCons (dVar 1) (aCons (dVar 2) (aCons (dTup (aCons (dVar 4) (aCons (dVar 5) (aNil)))) (aNil))))))))
def sm_determinant_of : Sem := semOf ["first", "second", "third", "places", "one", "two", "three"] b_determinant_of
theorem e_determinant_of (a0 a1 a2 a3 : SV) (T : Tk) (k : KD) : sm_determinant_of [a0, a1, a2, a3] T k = b_determinant_of { nx := fun _ T => k .non T, rt := k, bk := fun _ _ => False, ct := fun _ _ => False } [some a0, some a1, some a2, some a3, none, none, none] T := rfl
abbrev st_row_across : Stmt := topS 26
theorem sc_row_across : FnScope ["first", "second", "third", "found", "place", "others", "other"] ["first", "second", "third"] (defScope st_row_across) := ⟨rfl, rfl, rfl, by decide +kernel, rfl, by decide +kernel, by decide +kernel⟩
def b_row_across : dS := sSeq (sOwn 3 (aNil)) (sSeq (sForI (iR1 (aCons (dC (.int 4)) (aNil))) (gN 4) (sSeq (sAsg (dBlt (oG fTuple) (aCons (dLc [6] (iR1 (aCons (dC (.int 4)) (aNil))) (cN 6) (dTst (dOp (oF fNe) (dVar 6) (dVar 4))) (dVar 6)) (aNil))) (gN 5)) (sApp 3 (dOp (oF fMul) (dOp (oF fSub) (dC (.int 1)) (dOp (oF fMul) (dC (.int 2)) (dOp (oF fMod) (dVar 4) (dC (.int 2))))) (dCall 4 sm_determinant_of (aCons (dVar 0) (aCons (dVar 1) (aCons (dVar 2) (aCons (dVar 5) (aNil)))))))))) (sFrq 3 (sRet (dBlt (oG fTuple) (aCons (dVar 3) (aNil))))))
def sm_row_across : Sem := semOf ["first", "second", "third", "found", "place", "others", "other"] b_row_across
theorem e_row_across (a0 a1 a2 : SV) (T : Tk) (k : KD) : sm_row_across [a0, a1, a2] T k = b_row_across { nx := fun _ T => k .non T, rt := k, bk := fun _ _ => False, ct := fun _ _ => False } [some a0, some a1, some a2, none, none, none, none] T := rfl
abbrev st_crossing : Stmt := topS 27
theorem sc_crossing : FnScope ["circle", "other"] ["circle", "other"] (defScope st_crossing) := ⟨rfl, rfl, rfl, by decide +kernel, rfl, by decide +kernel, by decide +kernel⟩
def b_crossing : dS := sSeq (sExpr (dCall 1 sm_check_round (aCons (dVar 0) (aNil)))) (sSeq (sExpr (dCall 1 sm_check_round (aCons (dVar 1) (aNil)))) (sRet (dCall 2 sm_fraction (aCons (dOp (oF fMul) (dCall 2 sm_joint (aCons (dVar 0) (aCons (dVar 1) (aNil)))) (dCall 2 sm_joint (aCons (dVar 0) (aCons (dVar 1) (aNil))))) (aCons (dOp (oF fMul) (dCall 1 sm_bend (aCons (dVar 0) (aNil))) (dCall 1 sm_bend (aCons (dVar 1) (aNil)))) (aNil))))))
def sm_crossing : Sem := semOf ["circle", "other"] b_crossing
theorem e_crossing (a0 a1 : SV) (T : Tk) (k : KD) : sm_crossing [a0, a1] T k = b_crossing { nx := fun _ T => k .non T, rt := k, bk := fun _ _ => False, ct := fun _ _ => False } [some a0, some a1] T := rfl
abbrev st_check_pair : Stmt := topS 29
theorem sc_check_pair : FnScope ["circle", "other"] ["circle", "other"] (defScope st_check_pair) := ⟨rfl, rfl, rfl, by decide +kernel, rfl, by decide +kernel, by decide +kernel⟩
def b_check_pair : dS := sSeq (sExpr (dCall 1 sm_check_round (aCons (dVar 0) (aNil)))) (sExpr (dCall 1 sm_check_round (aCons (dVar 1) (aNil))))
def sm_check_pair : Sem := semOf ["circle", "other"] b_check_pair
theorem e_check_pair (a0 a1 : SV) (T : Tk) (k : KD) : sm_check_pair [a0, a1] T k = b_check_pair { nx := fun _ T => k .non T, rt := k, bk := fun _ _ => False, ct := fun _ _ => False } [some a0, some a1] T := rfl
abbrev st_check_unlike : Stmt := topS 30
theorem sc_check_unlike : FnScope ["circle", "other"] ["circle", "other"] (defScope st_check_unlike) := ⟨rfl, rfl, rfl, by decide +kernel, rfl, by decide +kernel, by decide +kernel⟩
def b_check_unlike : dS := sIf (dTst (dOp (oF fEq) (dVar 0) (dVar 1))) ((fun _ _ _ => False)) ((fun k ρ T => k.nx ρ T))
def sm_check_unlike : Sem := semOf ["circle", "other"] b_check_unlike
theorem e_check_unlike (a0 a1 : SV) (T : Tk) (k : KD) : sm_check_unlike [a0, a1] T k = b_check_unlike { nx := fun _ T => k .non T, rt := k, bk := fun _ _ => False, ct := fun _ _ => False } [some a0, some a1] T := rfl
abbrev st_weights_for : Stmt := topS 31
theorem sc_weights_for : FnScope ["row"] ["row"] (defScope st_weights_for) := ⟨rfl, rfl, rfl, by decide +kernel, rfl, by decide +kernel, by decide +kernel⟩
def b_weights_for : dS := sRet (dTup (aCons (dOp (oF fMul) (dNeg (dC (.int 2))) (dOp (oF fIx) (dVar 0) (dC (.int 3)))) (aCons (dOp (oF fIx) (dVar 0) (dC (.int 1))) (aCons (dOp (oF fIx) (dVar 0) (dC (.int 2))) (aCons (dOp (oF fMul) (dNeg (dC (.int 2))) (dOp (oF fIx) (dVar 0) (dC (.int 0)))) (aNil))))))
def sm_weights_for : Sem := semOf ["row"] b_weights_for
theorem e_weights_for (a0 : SV) (T : Tk) (k : KD) : sm_weights_for [a0] T k = b_weights_for { nx := fun _ T => k .non T, rt := k, bk := fun _ _ => False, ct := fun _ _ => False } [some a0] T := rfl
abbrev st_mixed : Stmt := topS 32
theorem sc_mixed : FnScope ["one", "row", "two", "other", "x", "y"] ["one", "row", "two", "other"] (defScope st_mixed) := ⟨rfl, rfl, rfl, by decide +kernel, rfl, by decide +kernel, by decide +kernel⟩
def b_mixed : dS := sRet (dBlt (oG fTuple) (aCons (dLc [4, 5] (iZA (aCons (dVar 1) (aCons (dVar 3) (aNil)))) (cT [4, 5]) dYes (dOp (oF fAdd) (dOp (oF fMul) (dVar 0) (dVar 4)) (dOp (oF fMul) (dVar 2) (dVar 5)))) (aNil)))
def sm_mixed : Sem := semOf ["one", "row", "two", "other", "x", "y"] b_mixed
theorem e_mixed (a0 a1 a2 a3 : SV) (T : Tk) (k : KD) : sm_mixed [a0, a1, a2, a3] T k = b_mixed { nx := fun _ T => k .non T, rt := k, bk := fun _ _ => False, ct := fun _ _ => False } [some a0, some a1, some a2, some a3, none, none] T := rfl
abbrev st_depth : Stmt := topS 33
theorem sc_depth : FnScope ["circle", "other"] ["circle", "other"] (defScope st_depth) := ⟨rfl, rfl, rfl, by decide +kernel, rfl, by decide +kernel, by decide +kernel⟩
def b_depth : dS := sRet (dOp (oF fSub) (dOp (oF fMul) (dCall 1 sm_bend (aCons (dVar 0) (aNil))) (dCall 1 sm_bend (aCons (dVar 1) (aNil)))) (dOp (oF fMul) (dCall 2 sm_joint (aCons (dVar 0) (aCons (dVar 1) (aNil)))) (dCall 2 sm_joint (aCons (dVar 0) (aCons (dVar 1) (aNil))))))
def sm_depth : Sem := semOf ["circle", "other"] b_depth
theorem e_depth (a0 a1 : SV) (T : Tk) (k : KD) : sm_depth [a0, a1] T k = b_depth { nx := fun _ T => k .non T, rt := k, bk := fun _ _ => False, ct := fun _ _ => False } [some a0, some a1] T := rfl
abbrev st_check_apart : Stmt := topS 37
theorem sc_check_apart : FnScope ["circle", "other"] ["circle", "other"] (defScope st_check_apart) := ⟨rfl, rfl, rfl, by decide +kernel, rfl, by decide +kernel, by decide +kernel⟩
def b_check_apart : dS := sSeq (sExpr (dCall 2 sm_check_unlike (aCons (dVar 0) (aCons (dVar 1) (aNil))))) (sIf (dTst (dOp (oF fGe) (dCall 2 sm_depth (aCons (dVar 0) (aCons (dVar 1) (aNil)))) (dC (.int 0)))) ((fun _ _ _ => False)) ((fun k ρ T => k.nx ρ T)))
def sm_check_apart : Sem := semOf ["circle", "other"] b_check_apart
theorem e_check_apart (a0 a1 : SV) (T : Tk) (k : KD) : sm_check_apart [a0, a1] T k = b_check_apart { nx := fun _ T => k .non T, rt := k, bk := fun _ _ => False, ct := fun _ _ => False } [some a0, some a1] T := rfl
abbrev st_is_link_of : Stmt := topS 38
theorem sc_is_link_of : FnScope ["circle", "other", "link"] ["circle", "other", "link"] (defScope st_is_link_of) := ⟨rfl, rfl, rfl, by decide +kernel, rfl, by decide +kernel, by decide +kernel⟩
def b_is_link_of : dS := sSeq (sIf (dOr (dTst (dOp (oF fNe) (dCall 2 sm_depth (aCons (dVar 2) (aCons (dVar 0) (aNil)))) (dC (.int 0)))) (dTst (dOp (oF fNe) (dCall 2 sm_depth (aCons (dVar 2) (aCons (dVar 1) (aNil)))) (dC (.int 0))))) (sRet (dC (.bl false))) ((fun k ρ T => k.nx ρ T))) (sRet (dOp (oF fLt) (dOp (oF fMul) (dOp (oF fMul) (dCall 2 sm_joint (aCons (dVar 2) (aCons (dVar 0) (aNil)))) (dCall 2 sm_joint (aCons (dVar 2) (aCons (dVar 1) (aNil))))) (dCall 2 sm_joint (aCons (dVar 0) (aCons (dVar 1) (aNil))))) (dC (.int 0))))
def sm_is_link_of : Sem := semOf ["circle", "other", "link"] b_is_link_of
theorem e_is_link_of (a0 a1 a2 : SV) (T : Tk) (k : KD) : sm_is_link_of [a0, a1, a2] T k = b_is_link_of { nx := fun _ T => k .non T, rt := k, bk := fun _ _ => False, ct := fun _ _ => False } [some a0, some a1, some a2] T := rfl
abbrev st_check_link : Stmt := topS 39
theorem sc_check_link : FnScope ["circle", "other", "link"] ["circle", "other", "link"] (defScope st_check_link) := ⟨rfl, rfl, rfl, by decide +kernel, rfl, by decide +kernel, by decide +kernel⟩
def b_check_link : dS := sIf (dNot (dTst (dCall 3 sm_is_link_of (aCons (dVar 0) (aCons (dVar 1) (aCons (dVar 2) (aNil))))))) ((fun _ _ _ => False)) ((fun k ρ T => k.nx ρ T))
def sm_check_link : Sem := semOf ["circle", "other", "link"] b_check_link
theorem e_check_link (a0 a1 a2 : SV) (T : Tk) (k : KD) : sm_check_link [a0, a1, a2] T k = b_check_link { nx := fun _ T => k .non T, rt := k, bk := fun _ _ => False, ct := fun _ _ => False } [some a0, some a1, some a2] T := rfl
abbrev st_neighbours_of : Stmt := topS 40
theorem sc_neighbours_of : FnScope ["circle", "other", "link", "one", "two", "both", "first", "second", "weight", "inner", "outer", "length", "middle", "across", "square", "root", "rows", "way", "row"] ["circle", "other", "link"] (defScope st_neighbours_of) := ⟨rfl, rfl, rfl, by decide +kernel, rfl, by decide +kernel, by decide +kernel⟩
def b_neighbours_of : dS := sSeq (sPar3 3 4 5 (aCons (dCall 1 sm_bend (aCons (dVar 0) (aNil))) (aCons (dCall 1 sm_bend (aCons (dVar 1) (aNil))) (aCons (dCall 2 sm_joint (aCons (dVar 0) (aCons (dVar 1) (aNil)))) (aNil))))) (sSeq (sPar 6 7 (aCons (dCall 2 sm_joint (aCons (dVar 2) (aCons (dVar 0) (aNil)))) (aCons (dCall 2 sm_joint (aCons (dVar 2) (aCons (dVar 1) (aNil)))) (aNil)))) (sSeq (sAsg (dOp (oF fSub) (dOp (oF fMul) (dVar 5) (dVar 5)) (dOp (oF fMul) (dVar 3) (dVar 4))) (gN 8)) (sSeq (sAsg (dCall 4 sm_mixed (aCons (dOp (oF fSub) (dOp (oF fMul) (dVar 7) (dVar 5)) (dOp (oF fMul) (dVar 6) (dVar 4))) (aCons (dVar 0) (aCons (dOp (oF fSub) (dOp (oF fMul) (dVar 6) (dVar 5)) (dOp (oF fMul) (dVar 7) (dVar 3))) (aCons (dVar 1) (aNil)))))) (gN 9)) (sSeq (sAsg (dCall 4 sm_mixed (aCons (dVar 8) (aCons (dVar 2) (aCons (dNeg (dC (.int 1))) (aCons (dVar 9) (aNil)))))) (gN 10)) (sSeq (sAsg (dCall 1 sm_bend (aCons (dVar 10) (aNil))) (gN 11)) (sSeq (sAsg (dCall 4 sm_mixed (aCons (dVar 11) (aCons (dVar 9) (aCons (dOp (oF fSub) (dOp (oF fMul) (dNeg (dC (.int 2))) (dCall 1 sm_bend (aCons (dVar 9) (aNil)))) (dVar 11)) (aCons (dVar 10) (aNil)))))) (gN 12)) (sSeq (sAsg (dCall 3 sm_row_across (aCons (dCall 1 sm_weights_for (aCons (dVar 0) (aNil))) (aCons (dCall 1 sm_weights_for (aCons (dVar 1) (aNil))) (aCons (dCall 1 sm_weights_for (aCons (dVar 2) (aNil))) (aNil))))) (gN 13)) (sSeq (sAsg (dOp (oF fMul) (dOp (oF fSub) (dOp (oF fMul) (dOp (oF fMul) (dOp (oF fMul) (dOp (oF fMul) (dVar 8) (dVar 11)) (dVar 8)) (dVar 11)) (dCall 1 sm_bend (aCons (dVar 2) (aNil)))) (dCall 1 sm_bend (aCons (dVar 12) (aNil)))) (dCall 1 sm_bend (aCons (dVar 13) (aNil)))) (gN 14)) (sSeq (sAsg (dBlt (oG fSqrt) (aCons (dBlt (oG (fI2 iMax)) (aCons (dC (.int 0)) (aCons (dVar 14) (aNil)))) (aNil))) (gN 15)) (sSeq (sIf (dTst (dOp (oF fNe) (dOp (oF fMul) (dVar 15) (dVar 15)) (dVar 14))) (sRet (dC .non)) ((fun k ρ T => k.nx ρ T))) (sSeq (sAsg (dLc [17] (iQ (dTup (aCons (dNeg (dC (.int 1))) (aCons (dC (.int 1)) (aNil))))) (cN 17) dYes (dCall 4 sm_mixed (aCons (dCall 1 sm_bend (aCons (dVar 13) (aNil))) (aCons (dVar 12) (aCons (dOp (oF fMul) (dVar 17) (dVar 15)) (aCons (dVar 13) (aNil))))))) (gN 16)) (sRet (dBlt (oG fTuple) (aCons (dBlt (oG fSortT) (aCons (dLc [18] (iQ (dVar 16)) (cN 18) dYes (dCall 1 sm_first_above (aCons (dVar 18) (aNil)))) (aNil))) (aNil)))))))))))))))
def sm_neighbours_of : Sem := semOf ["circle", "other", "link", "one", "two", "both", "first", "second", "weight", "inner", "outer", "length", "middle", "across", "square", "root", "rows", "way", "row"] b_neighbours_of
theorem e_neighbours_of (a0 a1 a2 : SV) (T : Tk) (k : KD) : sm_neighbours_of [a0, a1, a2] T k = b_neighbours_of { nx := fun _ T => k .non T, rt := k, bk := fun _ _ => False, ct := fun _ _ => False } [some a0, some a1, some a2, none, none, none, none, none, none, none, none, none, none, none, none, none, none, none, none] T := rfl
abbrev st_chain_count : Stmt := topS 41
theorem sc_chain_count : FnScope ["circle", "other"] ["circle", "other"] (defScope st_chain_count) := ⟨rfl, rfl, rfl, by decide +kernel, rfl, by decide +kernel, by decide +kernel⟩
def b_chain_count : dS := sSeq (sExpr (dCall 2 sm_check_pair (aCons (dVar 0) (aCons (dVar 1) (aNil))))) (sSeq (sExpr (dCall 2 sm_check_apart (aCons (dVar 0) (aCons (dVar 1) (aNil))))) (sRet (dGetT t_COUNTS (dCall 2 sm_crossing (aCons (dVar 0) (aCons (dVar 1) (aNil)))))))
def sm_chain_count : Sem := semOf ["circle", "other"] b_chain_count
theorem e_chain_count (a0 a1 : SV) (T : Tk) (k : KD) : sm_chain_count [a0, a1] T k = b_chain_count { nx := fun _ T => k .non T, rt := k, bk := fun _ _ => False, ct := fun _ _ => False } [some a0, some a1] T := rfl
abbrev st_are_neighbours : Stmt := topS 42
theorem sc_are_neighbours : FnScope ["circle", "other", "link", "next_link"] ["circle", "other", "link", "next_link"] (defScope st_are_neighbours) := ⟨rfl, rfl, rfl, by decide +kernel, rfl, by decide +kernel, by decide +kernel⟩
def b_are_neighbours : dS := sSeq (sExpr (dCall 2 sm_check_pair (aCons (dVar 0) (aCons (dVar 1) (aNil))))) (sSeq (sExpr (dCall 2 sm_check_pair (aCons (dVar 2) (aCons (dVar 3) (aNil))))) (sSeq (sExpr (dCall 2 sm_check_apart (aCons (dVar 0) (aCons (dVar 1) (aNil))))) (sSeq (sExpr (dCall 3 sm_check_link (aCons (dVar 0) (aCons (dVar 1) (aCons (dVar 2) (aNil)))))) (sSeq (sExpr (dCall 3 sm_check_link (aCons (dVar 0) (aCons (dVar 1) (aCons (dVar 3) (aNil)))))) (sRet (dAndV (dOp (oF fNe) (dVar 2) (dVar 3)) (dOp (oF fEq) (dCall 2 sm_depth (aCons (dVar 2) (aCons (dVar 3) (aNil)))) (dC (.int 0)))))))))
def sm_are_neighbours : Sem := semOf ["circle", "other", "link", "next_link"] b_are_neighbours
theorem e_are_neighbours (a0 a1 a2 a3 : SV) (T : Tk) (k : KD) : sm_are_neighbours [a0, a1, a2, a3] T k = b_are_neighbours { nx := fun _ T => k .non T, rt := k, bk := fun _ _ => False, ct := fun _ _ => False } [some a0, some a1, some a2, some a3] T := rfl
abbrev st_next_links : Stmt := topS 43
theorem sc_next_links : FnScope ["circle", "other", "link"] ["circle", "other", "link"] (defScope st_next_links) := ⟨rfl, rfl, rfl, by decide +kernel, rfl, by decide +kernel, by decide +kernel⟩
def b_next_links : dS := sSeq (sExpr (dCall 2 sm_check_pair (aCons (dVar 0) (aCons (dVar 1) (aNil))))) (sSeq (sExpr (dCall 1 sm_check_round (aCons (dVar 2) (aNil)))) (sSeq (sExpr (dCall 2 sm_check_apart (aCons (dVar 0) (aCons (dVar 1) (aNil))))) (sSeq (sExpr (dCall 3 sm_check_link (aCons (dVar 0) (aCons (dVar 1) (aCons (dVar 2) (aNil)))))) (sRet (dCall 3 sm_neighbours_of (aCons (dVar 0) (aCons (dVar 1) (aCons (dVar 2) (aNil)))))))))
def sm_next_links : Sem := semOf ["circle", "other", "link"] b_next_links
theorem e_next_links (a0 a1 a2 : SV) (T : Tk) (k : KD) : sm_next_links [a0, a1, a2] T k = b_next_links { nx := fun _ T => k .non T, rt := k, bk := fun _ _ => False, ct := fun _ _ => False } [some a0, some a1, some a2] T := rfl
abbrev st_links_on : Stmt := topS 44
theorem sc_links_on : FnScope ["circle", "other", "link", "many", "found", "beside", "each"] ["circle", "other", "link", "many"] (defScope st_links_on) := ⟨rfl, rfl, rfl, by decide +kernel, rfl, by decide +kernel, by decide +kernel⟩
def b_links_on : dS := sSeq (sExpr (dCall 2 sm_check_pair (aCons (dVar 0) (aCons (dVar 1) (aNil))))) (sSeq (sExpr (dCall 1 sm_check_round (aCons (dVar 2) (aNil)))) (sSeq (sIf (dNot (dTst (dCall 3 sm_is_between (aCons (dVar 3) (aCons (dC (.int 1)) (aCons (dC k_MOST_LINKS) (aNil))))))) ((fun _ _ _ => False)) ((fun k ρ T => k.nx ρ T))) (sSeq (sExpr (dCall 2 sm_check_apart (aCons (dVar 0) (aCons (dVar 1) (aNil))))) (sSeq (sExpr (dCall 3 sm_check_link (aCons (dVar 0) (aCons (dVar 1) (aCons (dVar 2) (aNil)))))) (sSeq (sOwn 4 (aCons (dVar 2) (aNil))) (sSeq (sWhile (dViewT 4 (dTst (dOp (oF fLt) (dBlt (oG fLen) (aCons (dVar 4) (aNil))) (dVar 3)))) (sSeq (sAsg (dView 4 (dCall 3 sm_neighbours_of (aCons (dVar 0) (aCons (dVar 1) (aCons (dOp (oF fIx) (dVar 4) (dNeg (dC (.int 1)))) (aNil)))))) (gN 5)) (sSeq (sIf (dTst (dIsN (dVar 5))) (sRet (dC .non)) ((fun k ρ T => k.nx ρ T))) (sApp 4 (dView 4 (dOp (oF fIx) (dLc [6] (iQ (dVar 5)) (cN 6) (dViewT 4 (dOr (dTst (dOp (oF fLt) (dBlt (oG fLen) (aCons (dVar 4) (aNil))) (dC (.int 2)))) (dTst (dOp (oF fNe) (dVar 6) (dOp (oF fIx) (dVar 4) (dNeg (dC (.int 2)))))))) (dVar 6)) (dC (.int 0)))))))) (sFrq 4 (sRet (dBlt (oG fTuple) (aCons (dVar 4) (aNil)))))))))))
def sm_links_on : Sem := semOf ["circle", "other", "link", "many", "found", "beside", "each"] b_links_on
theorem e_links_on (a0 a1 a2 a3 : SV) (T : Tk) (k : KD) : sm_links_on [a0, a1, a2, a3] T k = b_links_on { nx := fun _ T => k .non T, rt := k, bk := fun _ _ => False, ct := fun _ _ => False } [some a0, some a1, some a2, some a3, none, none, none] T := rfl
abbrev st__law_well : Stmt := topS 46
theorem sc__law_well : FnScope ["_law_script", "_law_spot", "_law_mixed", "_law_cell", "_law_own", "_law_rest"] ["_law_script", "_law_spot"] (defScope st__law_well) := ⟨rfl, rfl, rfl, by decide +kernel, rfl, by decide +kernel, by decide +kernel⟩
def b__law_well : En → Tk → KD → Prop := fun ρ T k => (sAsg (dOp (oF fAdd) (dC (.int 66245)) (dOp (oF fMul) (dC (.int 2203)) (dVar 1))) (gN 2)) { no0 with nx := fun ρ1 T1 => (fun ρ T k => (sForI (iQ (dSlQ (dVar 0) (fun _ T k => k none T) (pSome (dC (.int 9))))) (gN 3) (sAsg (dOp (oF fMod) (dBlt (oG fInt) (aCons (dOp (oF fAdd) (dOp (oF fAdd) (dOp (oF fMul) (dVar 2) (dC (.int 47917))) (dOp (oF fMod) (dBlt (oG fInt) (aCons (dVar 3) (aNil))) (dC (.int 2147483549)))) (dC (.int 31))) (aNil))) (dC (.int 2147483549))) (gN 2))) { no0 with nx := fun ρ1 T1 => (fun ρ T k => (sAsg (dIf (dTst (dOp (oF fLt) (dVar 1) (dBlt (oG fLen) (aCons (dVar 0) (aNil))))) (dBlt (oG fInt) (aCons (dOp (oF fIx) (dVar 0) (dVar 1)) (aNil))) (dC (.int 0))) (gN 4)) { no0 with nx := fun ρ1 T1 => (fun ρ T k => (sAsg (dIf (dOr (dTst (dOp (oF fLt) (dVar 4) (dC (.int 0)))) (dTst (dOp (oF fGe) (dVar 4) (dOp (oF fPow) (dC (.int 10)) (dC (.int 18)))))) (dBlt (oG (fI1 iAbs)) (aCons (dVar 4) (aNil))) (dC (.int 0))) (gN 5)) { no0 with nx := fun ρ1 T1 => (fun ρ T k => (aCons (dVar 5) (aCons (dOp (oF fMod) (dBlt (oG fInt) (aCons (dOp (oF fAdd) (dOp (oF fAdd) (dOp (oF fMul) (dVar 2) (dC (.int 30029))) (dOp (oF fMul) (dOp (oF fMod) (dBlt (oG fInt) (aCons (dVar 4) (aNil))) (dC (.int 2147483549))) (dC (.int 6211)))) (dC (.int 13))) (aNil))) (dC (.int 2147483549))) (aCons (dC (.int 0)) (aNil)))) ρ T fun as T1 => match vals? as with | some ds => ds.length ≤ 1000000 ∧ k (.lst ds) T1 | none => False) ρ1 T1 k } ρ T) ρ1 T1 k } ρ T) ρ1 T1 k } ρ T) ρ1 T1 k } ρ T
def sm__law_well : Sem := semO ["_law_script", "_law_spot", "_law_mixed", "_law_cell", "_law_own", "_law_rest"] b__law_well
theorem e__law_well (a0 a1 : SV) (T : Tk) (k : KD) : sm__law_well [a0, a1] T k = b__law_well [some a0, some a1, none, none, none, none] T k := rfl
abbrev st__law_dip : Stmt := topS 47
theorem sc__law_dip : FnScope ["_law_well_here", "_law_many", "_law_digit", "_law_step"] ["_law_well_here", "_law_many"] (defScope st__law_dip) := ⟨rfl, rfl, rfl, by decide +kernel, rfl, by decide +kernel, by decide +kernel⟩
def b__law_dip : dS := sSeq (sIf (dTst (dOp (oF fGt) (dTix 0 (dC (.int 0))) (dC (.int 0)))) (sSeq (sAsg (dBlt (oG fDivmod) (aCons (dTix 0 (dC (.int 0))) (aCons (dVar 1) (aNil)))) (gTL 2 (gsCons (gTs 0 (dC (.int 0))) (gsCons (gN 2) (gsNil))))) (sRet (dVar 2))) ((fun k ρ T => k.nx ρ T))) (sSeq (sAsg (dOp (oF fAdd) (dTix 0 (dC (.int 2))) (dC (.int 1))) (gTs 0 (dC (.int 2)))) (sSeq (sAsg (dOp (oF fAdd) (dOp (oF fMod) (dBlt (oG fInt) (aCons (dTix 0 (dC (.int 1))) (aNil))) (dC (.int 10037))) (dC (.int 20023))) (gN 3)) (sSeq (sAsg (dOp (oF fMod) (dBlt (oG fInt) (aCons (dOp (oF fAdd) (dOp (oF fAdd) (dOp (oF fMul) (dTix 0 (dC (.int 1))) (dVar 3)) (dOp (oF fMul) (dC (.int 90011)) (dTix 0 (dC (.int 2))))) (dC (.int 17))) (aNil))) (dC (.int 2147483549))) (gTs 0 (dC (.int 1)))) (sRet (dOp (oF fMod) (dBlt (oG fInt) (aCons (dOp (oF fDiv) (dTix 0 (dC (.int 1))) (dC (.int 67))) (aNil))) (dVar 1))))))
def sm__law_dip : Sem := semOf ["_law_well_here", "_law_many", "_law_digit", "_law_step"] b__law_dip
theorem e__law_dip (a0 a1 : SV) (T : Tk) (k : KD) : sm__law_dip [a0, a1] T k = b__law_dip { nx := fun _ T => k .non T, rt := k, bk := fun _ _ => False, ct := fun _ _ => False } [some a0, some a1, none, none] T := rfl
abbrev st__law_of : Stmt := topS 48
theorem sc__law_of : FnScope ["_law_well_here", "_law_some"] ["_law_well_here", "_law_some"] (defScope st__law_of) := ⟨rfl, rfl, rfl, by decide +kernel, rfl, by decide +kernel, by decide +kernel⟩
def b__law_of : dS := sRet (dOp (oF fIx) (dVar 1) (dCall 2 sm__law_dip (aTank 0 (aCons (dBlt (oG fLen) (aCons (dVar 1) (aNil))) (aNil)))))
def sm__law_of : Sem := semOf ["_law_well_here", "_law_some"] b__law_of
theorem e__law_of (a0 a1 : SV) (T : Tk) (k : KD) : sm__law_of [a0, a1] T k = b__law_of { nx := fun _ T => k .non T, rt := k, bk := fun _ _ => False, ct := fun _ _ => False } [some a0, some a1] T := rfl
abbrev st__law_whole : Stmt := topS 49
theorem sc__law_whole : FnScope ["_law_well_here", "_law_wide", "_law_high"] ["_law_well_here", "_law_wide"] (defScope st__law_whole) := ⟨rfl, rfl, rfl, by decide +kernel, rfl, by decide +kernel, by decide +kernel⟩
def b__law_whole : dS := sSeq (sIf (dTst (dOp (oF fLe) (dVar 1) (dC (.int 1000)))) (sRet (dOp (oF fSub) (dCall 2 sm__law_dip (aTank 0 (aCons (dOp (oF fAdd) (dOp (oF fMul) (dC (.int 2)) (dVar 1)) (dC (.int 1))) (aNil)))) (dVar 1))) ((fun k ρ T => k.nx ρ T))) (sSeq (sAsg (dOp (oF fSub) (dCall 2 sm__law_dip (aTank 0 (aCons (dOp (oF fAdd) (dOp (oF fMul) (dC (.int 2)) (dOp (oF fDiv) (dVar 1) (dC (.int 1000)))) (dC (.int 1))) (aNil)))) (dOp (oF fDiv) (dVar 1) (dC (.int 1000)))) (gN 2)) (sRet (dOp (oF fAdd) (dOp (oF fMul) (dC (.int 1000)) (dVar 2)) (dCall 2 sm__law_dip (aTank 0 (aCons (dC (.int 1000)) (aNil)))))))
def sm__law_whole : Sem := semOf ["_law_well_here", "_law_wide", "_law_high"] b__law_whole
theorem e__law_whole (a0 a1 : SV) (T : Tk) (k : KD) : sm__law_whole [a0, a1] T k = b__law_whole { nx := fun _ T => k .non T, rt := k, bk := fun _ _ => False, ct := fun _ _ => False } [some a0, some a1, none] T := rfl
abbrev st__law_rounds : Stmt := topS 50
theorem sc__law_rounds : FnScope ["_law_script"] ["_law_script"] (defScope st__law_rounds) := ⟨rfl, rfl, rfl, by decide +kernel, rfl, by decide +kernel, by decide +kernel⟩
def b__law_rounds : dS := sRet (dBlt (oG (fI2 iMax)) (aCons (dC (.int 2)) (aCons (dBlt (oG (fI2 iMin)) (aCons (dBlt (oG fLen) (aCons (dVar 0) (aNil))) (aCons (dC (.int 3)) (aNil)))) (aNil))))
def sm__law_rounds : Sem := semOf ["_law_script"] b__law_rounds
theorem e__law_rounds (a0 : SV) (T : Tk) (k : KD) : sm__law_rounds [a0] T k = b__law_rounds { nx := fun _ T => k .non T, rt := k, bk := fun _ _ => False, ct := fun _ _ => False } [some a0] T := rfl
abbrev st__law_gcd : Stmt := topS 51
theorem sc__law_gcd : FnScope ["_law_one", "_law_two", "_law_left", "_law_right_here"] ["_law_one", "_law_two"] (defScope st__law_gcd) := ⟨rfl, rfl, rfl, by decide +kernel, rfl, by decide +kernel, by decide +kernel⟩
def b__law_gcd : dS := sSeq (sPar 2 3 (aCons (dBlt (oG (fI1 iAbs)) (aCons (dVar 0) (aNil))) (aCons (dBlt (oG (fI1 iAbs)) (aCons (dVar 1) (aNil))) (aNil)))) (sSeq (sWhile (dTst (dOp (oF fGt) (dVar 3) (dC (.int 0)))) (sPar 2 3 (aCons (dVar 3) (aCons (dOp (oF fMod) (dBlt (oG fInt) (aCons (dVar 2) (aNil))) (dVar 3)) (aNil))))) (sRet (dVar 2)))
def sm__law_gcd : Sem := semOf ["_law_one", "_law_two", "_law_left", "_law_right_here"] b__law_gcd
theorem e__law_gcd (a0 a1 : SV) (T : Tk) (k : KD) : sm__law_gcd [a0, a1] T k = b__law_gcd { nx := fun _ T => k .non T, rt := k, bk := fun _ _ => False, ct := fun _ _ => False } [some a0, some a1, none, none] T := rfl
abbrev st__law_cut : Stmt := topS 52
theorem sc__law_cut : FnScope ["_law_numbers", "_law_part", "_law_number"] ["_law_numbers"] (defScope st__law_cut) := ⟨rfl, rfl, rfl, by decide +kernel, rfl, by decide +kernel, by decide +kernel⟩
def b__law_cut : dS := sSeq (sAsg (dC (.int 0)) (gN 1)) (sSeq (sForI (iQ (dVar 0)) (gN 2) (sAsg (dCall 2 sm__law_gcd (aCons (dVar 1) (aCons (dVar 2) (aNil)))) (gN 1))) (sRet (dBlt (oG fTuple) (aCons (dLc [2] (iQ (dVar 0)) (cN 2) dYes (dOp (oF fDiv) (dVar 2) (dVar 1))) (aNil)))))
def sm__law_cut : Sem := semOf ["_law_numbers", "_law_part", "_law_number"] b__law_cut
theorem e__law_cut (a0 : SV) (T : Tk) (k : KD) : sm__law_cut [a0] T k = b__law_cut { nx := fun _ T => k .non T, rt := k, bk := fun _ _ => False, ct := fun _ _ => False } [some a0, none, none] T := rfl
abbrev st__law_form : Stmt := topS 53
theorem sc__law_form : FnScope ["_law_row", "_law_first", "_law_number"] ["_law_row"] (defScope st__law_form) := ⟨rfl, rfl, rfl, by decide +kernel, rfl, by decide +kernel, by decide +kernel⟩
def b__law_form : dS := sSeq (sAsg (dCall 1 sm__law_cut (aCons (dVar 0) (aNil))) (gN 0)) (sSeq (sAsg (dOp (oF fIx) (dLc [2] (iQ (dVar 0)) (cN 2) (dTst (dOp (oF fNe) (dVar 2) (dC (.int 0)))) (dVar 2)) (dC (.int 0))) (gN 1)) (sRet (dIf (dTst (dOp (oF fGt) (dVar 1) (dC (.int 0)))) (dVar 0) (dBlt (oG fTuple) (aCons (dLc [2] (iQ (dVar 0)) (cN 2) dYes (dOp (oF fSub) (dC (.int 0)) (dVar 2))) (aNil))))))
def sm__law_form : Sem := semOf ["_law_row", "_law_first", "_law_number"] b__law_form
theorem e__law_form (a0 : SV) (T : Tk) (k : KD) : sm__law_form [a0] T k = b__law_form { nx := fun _ T => k .non T, rt := k, bk := fun _ _ => False, ct := fun _ _ => False } [some a0, none, none] T := rfl
abbrev st__law_times : Stmt := topS 54
theorem sc__law_times : FnScope ["_law_x", "_law_y"] ["_law_x", "_law_y"] (defScope st__law_times) := ⟨rfl, rfl, rfl, by decide +kernel, rfl, by decide +kernel, by decide +kernel⟩
def b__law_times : dS := sRet (dTup (aCons (dOp (oF fSub) (dOp (oF fMul) (dOp (oF fIx) (dVar 0) (dC (.int 0))) (dOp (oF fIx) (dVar 1) (dC (.int 0)))) (dOp (oF fMul) (dOp (oF fIx) (dVar 0) (dC (.int 1))) (dOp (oF fIx) (dVar 1) (dC (.int 1))))) (aCons (dOp (oF fAdd) (dOp (oF fMul) (dOp (oF fIx) (dVar 0) (dC (.int 0))) (dOp (oF fIx) (dVar 1) (dC (.int 1)))) (dOp (oF fMul) (dOp (oF fIx) (dVar 0) (dC (.int 1))) (dOp (oF fIx) (dVar 1) (dC (.int 0))))) (aNil))))
def sm__law_times : Sem := semOf ["_law_x", "_law_y"] b__law_times
theorem e__law_times (a0 a1 : SV) (T : Tk) (k : KD) : sm__law_times [a0, a1] T k = b__law_times { nx := fun _ T => k .non T, rt := k, bk := fun _ _ => False, ct := fun _ _ => False } [some a0, some a1] T := rfl
abbrev st__law_plus : Stmt := topS 55
theorem sc__law_plus : FnScope ["_law_x", "_law_y"] ["_law_x", "_law_y"] (defScope st__law_plus) := ⟨rfl, rfl, rfl, by decide +kernel, rfl, by decide +kernel, by decide +kernel⟩
def b__law_plus : dS := sRet (dTup (aCons (dOp (oF fAdd) (dOp (oF fIx) (dVar 0) (dC (.int 0))) (dOp (oF fIx) (dVar 1) (dC (.int 0)))) (aCons (dOp (oF fAdd) (dOp (oF fIx) (dVar 0) (dC (.int 1))) (dOp (oF fIx) (dVar 1) (dC (.int 1)))) (aNil))))
def sm__law_plus : Sem := semOf ["_law_x", "_law_y"] b__law_plus
theorem e__law_plus (a0 a1 : SV) (T : Tk) (k : KD) : sm__law_plus [a0, a1] T k = b__law_plus { nx := fun _ T => k .non T, rt := k, bk := fun _ _ => False, ct := fun _ _ => False } [some a0, some a1] T := rfl
abbrev st__law_minus : Stmt := topS 56
theorem sc__law_minus : FnScope ["_law_x"] ["_law_x"] (defScope st__law_minus) := ⟨rfl, rfl, rfl, by decide +kernel, rfl, by decide +kernel, by decide +kernel⟩
def b__law_minus : dS := sRet (dTup (aCons (dOp (oF fSub) (dC (.int 0)) (dOp (oF fIx) (dVar 0) (dC (.int 0)))) (aCons (dOp (oF fSub) (dC (.int 0)) (dOp (oF fIx) (dVar 0) (dC (.int 1)))) (aNil))))
def sm__law_minus : Sem := semOf ["_law_x"] b__law_minus
theorem e__law_minus (a0 : SV) (T : Tk) (k : KD) : sm__law_minus [a0] T k = b__law_minus { nx := fun _ T => k .non T, rt := k, bk := fun _ _ => False, ct := fun _ _ => False } [some a0] T := rfl
abbrev st__law_conj : Stmt := topS 57
theorem sc__law_conj : FnScope ["_law_x"] ["_law_x"] (defScope st__law_conj) := ⟨rfl, rfl, rfl, by decide +kernel, rfl, by decide +kernel, by decide +kernel⟩
def b__law_conj : dS := sRet (dTup (aCons (dOp (oF fIx) (dVar 0) (dC (.int 0))) (aCons (dOp (oF fSub) (dC (.int 0)) (dOp (oF fIx) (dVar 0) (dC (.int 1)))) (aNil))))
def sm__law_conj : Sem := semOf ["_law_x"] b__law_conj
theorem e__law_conj (a0 : SV) (T : Tk) (k : KD) : sm__law_conj [a0] T k = b__law_conj { nx := fun _ T => k .non T, rt := k, bk := fun _ _ => False, ct := fun _ _ => False } [some a0] T := rfl
abbrev st__law_norm : Stmt := topS 58
theorem sc__law_norm : FnScope ["_law_x"] ["_law_x"] (defScope st__law_norm) := ⟨rfl, rfl, rfl, by decide +kernel, rfl, by decide +kernel, by decide +kernel⟩
def b__law_norm : dS := sRet (dOp (oF fAdd) (dOp (oF fMul) (dOp (oF fIx) (dVar 0) (dC (.int 0))) (dOp (oF fIx) (dVar 0) (dC (.int 0)))) (dOp (oF fMul) (dOp (oF fIx) (dVar 0) (dC (.int 1))) (dOp (oF fIx) (dVar 0) (dC (.int 1)))))
def sm__law_norm : Sem := semOf ["_law_x"] b__law_norm
theorem e__law_norm (a0 : SV) (T : Tk) (k : KD) : sm__law_norm [a0] T k = b__law_norm { nx := fun _ T => k .non T, rt := k, bk := fun _ _ => False, ct := fun _ _ => False } [some a0] T := rfl
abbrev st__law_scaled : Stmt := topS 59
theorem sc__law_scaled : FnScope ["_law_many", "_law_x"] ["_law_many", "_law_x"] (defScope st__law_scaled) := ⟨rfl, rfl, rfl, by decide +kernel, rfl, by decide +kernel, by decide +kernel⟩
def b__law_scaled : dS := sRet (dTup (aCons (dOp (oF fMul) (dVar 0) (dOp (oF fIx) (dVar 1) (dC (.int 0)))) (aCons (dOp (oF fMul) (dVar 0) (dOp (oF fIx) (dVar 1) (dC (.int 1)))) (aNil))))
def sm__law_scaled : Sem := semOf ["_law_many", "_law_x"] b__law_scaled
theorem e__law_scaled (a0 a1 : SV) (T : Tk) (k : KD) : sm__law_scaled [a0, a1] T k = b__law_scaled { nx := fun _ T => k .non T, rt := k, bk := fun _ _ => False, ct := fun _ _ => False } [some a0, some a1] T := rfl
abbrev st__law_over : Stmt := topS 60
theorem sc__law_over : FnScope ["_law_x", "_law_y", "_law_size", "_law_top"] ["_law_x", "_law_y"] (defScope st__law_over) := ⟨rfl, rfl, rfl, by decide +kernel, rfl, by decide +kernel, by decide +kernel⟩
def b__law_over : dS := sSeq (sPar 2 3 (aCons (dCall 1 sm__law_norm (aCons (dVar 1) (aNil))) (aCons (dCall 2 sm__law_times (aCons (dVar 0) (aCons (dCall 1 sm__law_conj (aCons (dVar 1) (aNil))) (aNil)))) (aNil)))) (sRet (dTup (aCons (dOp (oF fDiv) (dOp (oF fIx) (dVar 3) (dC (.int 0))) (dVar 2)) (aCons (dOp (oF fDiv) (dOp (oF fIx) (dVar 3) (dC (.int 1))) (dVar 2)) (aNil)))))
def sm__law_over : Sem := semOf ["_law_x", "_law_y", "_law_size", "_law_top"] b__law_over
theorem e__law_over (a0 a1 : SV) (T : Tk) (k : KD) : sm__law_over [a0, a1] T k = b__law_over { nx := fun _ T => k .non T, rt := k, bk := fun _ _ => False, ct := fun _ _ => False } [some a0, some a1, none, none] T := rfl
abbrev st__law_deep : Stmt := topS 61
theorem sc__law_deep : FnScope ["_law_x", "_law_y", "_law_size", "_law_top", "_law_many"] ["_law_x", "_law_y"] (defScope st__law_deep) := ⟨rfl, rfl, rfl, by decide +kernel, rfl, by decide +kernel, by decide +kernel⟩
def b__law_deep : dS := sSeq (sWhile (dTst (dOp (oF fNe) (dVar 1) (dTup (aCons (dC (.int 0)) (aCons (dC (.int 0)) (aNil)))))) (sSeq (sPar 2 3 (aCons (dCall 1 sm__law_norm (aCons (dVar 1) (aNil))) (aCons (dCall 2 sm__law_times (aCons (dVar 0) (aCons (dCall 1 sm__law_conj (aCons (dVar 1) (aNil))) (aNil)))) (aNil)))) (sSeq (sAsg (dTup (aCons (dOp (oF fDiv) (dOp (oF fAdd) (dOp (oF fMul) (dC (.int 2)) (dOp (oF fIx) (dVar 3) (dC (.int 0)))) (dVar 2)) (dOp (oF fMul) (dC (.int 2)) (dVar 2))) (aCons (dOp (oF fDiv) (dOp (oF fAdd) (dOp (oF fMul) (dC (.int 2)) (dOp (oF fIx) (dVar 3) (dC (.int 1)))) (dVar 2)) (dOp (oF fMul) (dC (.int 2)) (dVar 2))) (aNil)))) (gN 4)) (sPar 0 1 (aCons (dVar 1) (aCons (dCall 2 sm__law_plus (aCons (dVar 0) (aCons (dCall 1 sm__law_minus (aCons (dCall 2 sm__law_times (aCons (dVar 4) (aCons (dVar 1) (aNil)))) (aNil))) (aNil)))) (aNil))))))) (sRet (dVar 0))
def sm__law_deep : Sem := semOf ["_law_x", "_law_y", "_law_size", "_law_top", "_law_many"] b__law_deep
theorem e__law_deep (a0 a1 : SV) (T : Tk) (k : KD) : sm__law_deep [a0, a1] T k = b__law_deep { nx := fun _ T => k .non T, rt := k, bk := fun _ _ => False, ct := fun _ _ => False } [some a0, some a1, none, none, none] T := rfl
abbrev st__law_quarter : Stmt := topS 62
theorem sc__law_quarter : FnScope ["_law_x", "_law_turn"] ["_law_x"] (defScope st__law_quarter) := ⟨rfl, rfl, rfl, by decide +kernel, rfl, by decide +kernel, by decide +kernel⟩
def b__law_quarter : dS := sSeq (sForI (iR1 (aCons (dC (.int 4)) (aNil))) (gN 1) (sSeq (sIf (dAnd (dTst (dOp (oF fGt) (dOp (oF fIx) (dVar 0) (dC (.int 0))) (dC (.int 0)))) (dTst (dOp (oF fGe) (dOp (oF fIx) (dVar 0) (dC (.int 1))) (dC (.int 0))))) (sRet (dVar 0)) ((fun k ρ T => k.nx ρ T))) (sAsg (dTup (aCons (dOp (oF fSub) (dC (.int 0)) (dOp (oF fIx) (dVar 0) (dC (.int 1)))) (aCons (dOp (oF fIx) (dVar 0) (dC (.int 0))) (aNil)))) (gN 0)))) (sRet (dVar 0))
def sm__law_quarter : Sem := semOf ["_law_x", "_law_turn"] b__law_quarter
theorem e__law_quarter (a0 : SV) (T : Tk) (k : KD) : sm__law_quarter [a0] T k = b__law_quarter { nx := fun _ T => k .non T, rt := k, bk := fun _ _ => False, ct := fun _ _ => False } [some a0, none] T := rfl
abbrev st__law_chart : Stmt := topS 63
theorem sc__law_chart : FnScope ["_law_hand", "_law_four_here", "_law_part", "_law_each", "_law_some", "_law_first", "_law_unit", "_law_a", "_law_b", "_law_c", "_law_d"] ["_law_hand", "_law_four_here"] (defScope st__law_chart) := ⟨rfl, rfl, rfl, by decide +kernel, rfl, by decide +kernel, by decide +kernel⟩
def b__law_chart : dS := sSeq (sAsg (dTup (aCons (dC (.int 0)) (aCons (dC (.int 0)) (aNil)))) (gN 2)) (sSeq (sForI (iQ (dVar 1)) (gN 3) (sAsg (dCall 2 sm__law_deep (aCons (dVar 2) (aCons (dVar 3) (aNil)))) (gN 2))) (sSeq (sAsg (dLc [3] (iQ (dVar 1)) (cN 3) dYes (dCall 2 sm__law_over (aCons (dVar 3) (aCons (dVar 2) (aNil))))) (gN 4)) (sSeq (sAsg (dOp (oF fIx) (dLc [3] (iQ (dVar 4)) (cN 3) (dTst (dOp (oF fNe) (dVar 3) (dTup (aCons (dC (.int 0)) (aCons (dC (.int 0)) (aNil)))))) (dVar 3)) (dC (.int 0))) (gN 5)) (sSeq (sAsg (dCall 2 sm__law_over (aCons (dCall 1 sm__law_quarter (aCons (dVar 5) (aNil))) (aCons (dVar 5) (aNil)))) (gN 6)) (sSeq (sAsg (dLc [3] (iQ (dVar 4)) (cN 3) dYes (dCall 2 sm__law_times (aCons (dVar 6) (aCons (dVar 3) (aNil))))) (gTL 4 (gsCons (gN 7) (gsCons (gN 8) (gsCons (gN 9) (gsCons (gN 10) (gsNil))))))) (sRet (dTup (aCons (dVar 0) (aCons (dVar 7) (aCons (dVar 8) (aCons (dVar 9) (aCons (dVar 10) (aNil)))))))))))))
def sm__law_chart : Sem := semOf ["_law_hand", "_law_four_here", "_law_part", "_law_each", "_law_some", "_law_first", "_law_unit", "_law_a", "_law_b", "_law_c", "_law_d"] b__law_chart
theorem e__law_chart (a0 a1 : SV) (T : Tk) (k : KD) : sm__law_chart [a0, a1] T k = b__law_chart { nx := fun _ T => k .non T, rt := k, bk := fun _ _ => False, ct := fun _ _ => False } [some a0, some a1, none, none, none, none, none, none, none, none, none] T := rfl
abbrev st__law_back : Stmt := topS 64
theorem sc__law_back : FnScope ["_law_chart_here", "_law_hand", "_law_a", "_law_b", "_law_c", "_law_d"] ["_law_chart_here"] (defScope st__law_back) := ⟨rfl, rfl, rfl, by decide +kernel, rfl, by decide +kernel, by decide +kernel⟩
def b__law_back : dS := sSeq (sAsg (dVar 0) (gTL 5 (gsCons (gN 1) (gsCons (gN 2) (gsCons (gN 3) (gsCons (gN 4) (gsCons (gN 5) (gsNil)))))))) (sSeq (sIf (dTst (dOp (oF fEq) (dVar 1) (dC (.int 1)))) (sAsg (dTup (aCons (dCall 1 sm__law_conj (aCons (dVar 2) (aNil))) (aCons (dCall 1 sm__law_conj (aCons (dVar 3) (aNil))) (aCons (dCall 1 sm__law_conj (aCons (dVar 4) (aNil))) (aCons (dCall 1 sm__law_conj (aCons (dVar 5) (aNil))) (aNil)))))) (gTL 4 (gsCons (gN 2) (gsCons (gN 3) (gsCons (gN 4) (gsCons (gN 5) (gsNil))))))) ((fun k ρ T => k.nx ρ T))) (sRet (dTup (aCons (dVar 1) (aCons (dVar 5) (aCons (dCall 1 sm__law_minus (aCons (dVar 3) (aNil))) (aCons (dCall 1 sm__law_minus (aCons (dVar 4) (aNil))) (aCons (dVar 2) (aNil)))))))))
def sm__law_back : Sem := semOf ["_law_chart_here", "_law_hand", "_law_a", "_law_b", "_law_c", "_law_d"] b__law_back
theorem e__law_back (a0 : SV) (T : Tk) (k : KD) : sm__law_back [a0] T k = b__law_back { nx := fun _ T => k .non T, rt := k, bk := fun _ _ => False, ct := fun _ _ => False } [some a0, none, none, none, none, none] T := rfl
abbrev st__law_row_back : Stmt := topS 65
theorem sc__law_row_back : FnScope ["_law_chart_here", "_law_row", "_law_hand", "_law_a", "_law_b", "_law_c", "_law_d", "_law_q", "_law_l", "_law_m", "_law_k", "_law_beam", "_law_rest", "_law_first", "_law_last", "_law_x", "_law_y"] ["_law_chart_here", "_law_row"] (defScope st__law_row_back) := ⟨rfl, rfl, rfl, by decide +kernel, rfl, by decide +kernel, by decide +kernel⟩
def b__law_row_back : dS := sSeq (sAsg (dVar 0) (gTL 5 (gsCons (gN 2) (gsCons (gN 3) (gsCons (gN 4) (gsCons (gN 5) (gsCons (gN 6) (gsNil)))))))) (sSeq (sAsg (dVar 1) (gTL 4 (gsCons (gN 7) (gsCons (gN 8) (gsCons (gN 9) (gsCons (gN 10) (gsNil))))))) (sSeq (sPar 11 12 (aCons (dTup (aCons (dVar 8) (aCons (dVar 9) (aNil)))) (aCons (dTup (aCons (dVar 8) (aCons (dOp (oF fSub) (dC (.int 0)) (dVar 9)) (aNil)))) (aNil)))) (sSeq (sAsg (dOp (oF fAdd) (dOp (oF fAdd) (dOp (oF fMul) (dVar 7) (dCall 1 sm__law_norm (aCons (dVar 3) (aNil)))) (dOp (oF fIx) (dCall 2 sm__law_times (aCons (dVar 12) (aCons (dCall 2 sm__law_times (aCons (dVar 3) (aCons (dCall 1 sm__law_conj (aCons (dVar 5) (aNil))) (aNil)))) (aNil)))) (dC (.int 0)))) (dOp (oF fMul) (dVar 10) (dCall 1 sm__law_norm (aCons (dVar 5) (aNil))))) (gN 13)) (sSeq (sAsg (dOp (oF fAdd) (dOp (oF fAdd) (dOp (oF fMul) (dVar 7) (dCall 1 sm__law_norm (aCons (dVar 4) (aNil)))) (dOp (oF fIx) (dCall 2 sm__law_times (aCons (dVar 12) (aCons (dCall 2 sm__law_times (aCons (dVar 4) (aCons (dCall 1 sm__law_conj (aCons (dVar 6) (aNil))) (aNil)))) (aNil)))) (dC (.int 0)))) (dOp (oF fMul) (dVar 10) (dCall 1 sm__law_norm (aCons (dVar 6) (aNil))))) (gN 14)) (sSeq (sAsg (dCall 2 sm__law_plus (aCons (dCall 2 sm__law_scaled (aCons (dOp (oF fMul) (dC (.int 2)) (dVar 7)) (aCons (dCall 2 sm__law_times (aCons (dVar 3) (aCons (dCall 1 sm__law_conj (aCons (dVar 4) (aNil))) (aNil)))) (aNil)))) (aCons (dCall 2 sm__law_scaled (aCons (dOp (oF fMul) (dC (.int 2)) (dVar 10)) (aCons (dCall 2 sm__law_times (aCons (dVar 5) (aCons (dCall 1 sm__law_conj (aCons (dVar 6) (aNil))) (aNil)))) (aNil)))) (aNil)))) (gN 15)) (sSeq (sAsg (dCall 2 sm__law_plus (aCons (dCall 2 sm__law_times (aCons (dVar 12) (aCons (dCall 2 sm__law_times (aCons (dVar 3) (aCons (dCall 1 sm__law_conj (aCons (dVar 6) (aNil))) (aNil)))) (aNil)))) (aCons (dCall 2 sm__law_times (aCons (dVar 11) (aCons (dCall 2 sm__law_times (aCons (dCall 1 sm__law_conj (aCons (dVar 4) (aNil))) (aCons (dVar 5) (aNil)))) (aNil)))) (aNil)))) (gN 16)) (sRet (dTup (aCons (dVar 13) (aCons (dOp (oF fAdd) (dOp (oF fIx) (dVar 15) (dC (.int 0))) (dOp (oF fIx) (dVar 16) (dC (.int 0)))) (aCons (dIf (dTst (dOp (oF fEq) (dVar 2) (dC (.int 1)))) (dOp (oF fAdd) (dOp (oF fIx) (dVar 15) (dC (.int 1))) (dOp (oF fIx) (dVar 16) (dC (.int 1)))) (dOp (oF fSub) (dOp (oF fSub) (dC (.int 0)) (dOp (oF fIx) (dVar 15) (dC (.int 1)))) (dOp (oF fIx) (dVar 16) (dC (.int 1))))) (aCons (dVar 14) (aNil)))))))))))))
def sm__law_row_back : Sem := semOf ["_law_chart_here", "_law_row", "_law_hand", "_law_a", "_law_b", "_law_c", "_law_d", "_law_q", "_law_l", "_law_m", "_law_k", "_law_beam", "_law_rest", "_law_first", "_law_last", "_law_x", "_law_y"] b__law_row_back
theorem e__law_row_back (a0 a1 : SV) (T : Tk) (k : KD) : sm__law_row_back [a0, a1] T k = b__law_row_back { nx := fun _ T => k .non T, rt := k, bk := fun _ _ => False, ct := fun _ _ => False } [some a0, some a1, none, none, none, none, none, none, none, none, none, none, none, none, none, none, none] T := rfl
abbrev st__law_led_round : Stmt := topS 66
theorem sc__law_led_round : FnScope ["_law_chart_here", "_law_row"] ["_law_chart_here", "_law_row"] (defScope st__law_led_round) := ⟨rfl, rfl, rfl, by decide +kernel, rfl, by decide +kernel, by decide +kernel⟩
def b__law_led_round : dS := sRet (dCall 1 sm__law_form (aCons (dCall 2 sm__law_row_back (aCons (dCall 1 sm__law_back (aCons (dVar 0) (aNil))) (aCons (dVar 1) (aNil)))) (aNil)))
def sm__law_led_round : Sem := semOf ["_law_chart_here", "_law_row"] b__law_led_round
theorem e__law_led_round (a0 a1 : SV) (T : Tk) (k : KD) : sm__law_led_round [a0, a1] T k = b__law_led_round { nx := fun _ T => k .non T, rt := k, bk := fun _ _ => False, ct := fun _ _ => False } [some a0, some a1] T := rfl
abbrev st__law_four : Stmt := topS 67
theorem sc__law_four : FnScope ["_law_well_here", "_law_wide", "_law_a", "_law_b", "_law_c", "_law_d", "_law_turn"] ["_law_well_here", "_law_wide"] (defScope st__law_four) := ⟨rfl, rfl, rfl, by decide +kernel, rfl, by decide +kernel, by decide +kernel⟩
def b__law_four : dS := sSeq (sAsg (dLc [6] (iR1 (aCons (dC (.int 4)) (aNil))) (cN 6) dYes (dTup (aCons (dCall 2 sm__law_whole (aTank 0 (aCons (dVar 1) (aNil)))) (aCons (dCall 2 sm__law_whole (aTank 0 (aCons (dVar 1) (aNil)))) (aNil))))) (gTL 4 (gsCons (gN 2) (gsCons (gN 3) (gsCons (gN 4) (gsCons (gN 5) (gsNil))))))) (sSeq (sIf (dTst (dOp (oF fEq) (dCall 2 sm__law_times (aCons (dVar 2) (aCons (dVar 5) (aNil)))) (dCall 2 sm__law_times (aCons (dVar 3) (aCons (dVar 4) (aNil)))))) (sIf (dTst (dOp (oF fEq) (dVar 2) (dTup (aCons (dC (.int 0)) (aCons (dC (.int 0)) (aNil)))))) (sAsg (dTup (aCons (dTup (aCons (dC (.int 1)) (aCons (dC (.int 0)) (aNil)))) (aCons (dTup (aCons (dC (.int 0)) (aCons (dC (.int 0)) (aNil)))) (aCons (dTup (aCons (dC (.int 0)) (aCons (dC (.int 1)) (aNil)))) (aNil))))) (gTL 3 (gsCons (gN 2) (gsCons (gN 4) (gsCons (gN 5) (gsNil)))))) (sAsg (dTup (aCons (dOp (oF fAdd) (dOp (oF fIx) (dVar 5) (dC (.int 0))) (dC (.int 1))) (aCons (dOp (oF fIx) (dVar 5) (dC (.int 1))) (aNil)))) (gN 5))) ((fun k ρ T => k.nx ρ T))) (sRet (dLst (aCons (dVar 2) (aCons (dVar 3) (aCons (dVar 4) (aCons (dVar 5) (aNil))))))))
def sm__law_four : Sem := semOf ["_law_well_here", "_law_wide", "_law_a", "_law_b", "_law_c", "_law_d", "_law_turn"] b__law_four
theorem e__law_four (a0 a1 : SV) (T : Tk) (k : KD) : sm__law_four [a0, a1] T k = b__law_four { nx := fun _ T => k .non T, rt := k, bk := fun _ _ => False, ct := fun _ _ => False } [some a0, some a1, none, none, none, none, none] T := rfl
abbrev st__law_map : Stmt := topS 68
theorem sc__law_map : FnScope ["_law_well_here", "_law_wide", "_law_hand"] ["_law_well_here", "_law_wide"] (defScope st__law_map) := ⟨rfl, rfl, rfl, by decide +kernel, rfl, by decide +kernel, by decide +kernel⟩
def b__law_map : dS := sSeq (sAsg (dCall 2 sm__law_dip (aTank 0 (aCons (dC (.int 2)) (aNil)))) (gN 2)) (sRet (dCall 2 sm__law_chart (aCons (dVar 2) (aCons (dCall 2 sm__law_four (aTank 0 (aCons (dVar 1) (aNil)))) (aNil)))))
def sm__law_map : Sem := semOf ["_law_well_here", "_law_wide", "_law_hand"] b__law_map
theorem e__law_map (a0 a1 : SV) (T : Tk) (k : KD) : sm__law_map [a0, a1] T k = b__law_map { nx := fun _ T => k .non T, rt := k, bk := fun _ _ => False, ct := fun _ _ => False } [some a0, some a1, none] T := rfl
abbrev st__law_pair_of : Stmt := topS 69
theorem sc__law_pair_of : FnScope ["_law_world", "_law_n", "_law_m", "_law_a", "_law_b"] ["_law_world"] (defScope st__law_pair_of) := ⟨rfl, rfl, rfl, by decide +kernel, rfl, by decide +kernel, by decide +kernel⟩
def b__law_pair_of : dS := sSeq (sAsg (dVar 0) (gTL 4 (gsCons (gN 1) (gsCons (gN 2) (gsCons (gN 3) (gsCons (gN 4) (gsNil))))))) (sRet (dLst (aCons (dTup (aCons (dC (.int 0)) (aCons (dC (.int 0)) (aCons (dC (.int 1)) (aCons (dC (.int 0)) (aNil)))))) (aCons (dCall 1 sm__law_cut (aCons (dTup (aCons (dOp (oF fMul) (dVar 2) (dVar 2)) (aCons (dC (.int 0)) (aCons (dOp (oF fSub) (dC (.int 0)) (dOp (oF fMul) (dOp (oF fMul) (dC (.int 2)) (dVar 1)) (dVar 2))) (aCons (dOp (oF fSub) (dOp (oF fMul) (dVar 1) (dVar 1)) (dOp (oF fMul) (dVar 2) (dVar 2))) (aNil)))))) (aNil))) (aNil)))))
def sm__law_pair_of : Sem := semOf ["_law_world", "_law_n", "_law_m", "_law_a", "_law_b"] b__law_pair_of
theorem e__law_pair_of (a0 : SV) (T : Tk) (k : KD) : sm__law_pair_of [a0] T k = b__law_pair_of { nx := fun _ T => k .non T, rt := k, bk := fun _ _ => False, ct := fun _ _ => False } [some a0, none, none, none, none] T := rfl
abbrev st__law_link : Stmt := topS 70
theorem sc__law_link : FnScope ["_law_world", "_law_at", "_law_n", "_law_m", "_law_a", "_law_b", "_law_i", "_law_j", "_law_first", "_law_third"] ["_law_world", "_law_at"] (defScope st__law_link) := ⟨rfl, rfl, rfl, by decide +kernel, rfl, by decide +kernel, by decide +kernel⟩
def b__law_link : dS := sSeq (sAsg (dVar 0) (gTL 4 (gsCons (gN 2) (gsCons (gN 3) (gsCons (gN 4) (gsCons (gN 5) (gsNil))))))) (sSeq (sAsg (dVar 1) (gTL 2 (gsCons (gN 6) (gsCons (gN 7) (gsNil))))) (sSeq (sPar 8 9 (aCons (dOp (oF fMul) (dOp (oF fAdd) (dVar 2) (dVar 3)) (dVar 3)) (aCons (dOp (oF fAdd) (dOp (oF fMul) (dOp (oF fMul) (dOp (oF fMul) (dVar 6) (dVar 6)) (dVar 3)) (dVar 3)) (dOp (oF fMul) (dOp (oF fMul) (dVar 7) (dVar 7)) (dOp (oF fSub) (dOp (oF fMul) (dVar 2) (dVar 2)) (dOp (oF fMul) (dVar 3) (dVar 3))))) (aNil)))) (sRet (dCall 1 sm__law_form (aCons (dTup (aCons (dOp (oF fMul) (dOp (oF fMul) (dVar 8) (dVar 7)) (dVar 7)) (aCons (dOp (oF fSub) (dC (.int 0)) (dOp (oF fMul) (dOp (oF fMul) (dOp (oF fMul) (dC (.int 2)) (dVar 6)) (dVar 7)) (dVar 8))) (aCons (dOp (oF fSub) (dC (.int 0)) (dVar 9)) (aCons (dOp (oF fMul) (dOp (oF fMul) (dVar 8) (dVar 6)) (dVar 6)) (aNil)))))) (aNil))))))
def sm__law_link : Sem := semOf ["_law_world", "_law_at", "_law_n", "_law_m", "_law_a", "_law_b", "_law_i", "_law_j", "_law_first", "_law_third"] b__law_link
theorem e__law_link (a0 a1 : SV) (T : Tk) (k : KD) : sm__law_link [a0, a1] T k = b__law_link { nx := fun _ T => k .non T, rt := k, bk := fun _ _ => False, ct := fun _ _ => False } [some a0, some a1, none, none, none, none, none, none, none, none] T := rfl
abbrev st__law_next : Stmt := topS 71
theorem sc__law_next : FnScope ["_law_world", "_law_at", "_law_sign", "_law_n", "_law_m", "_law_a", "_law_b", "_law_i", "_law_j", "_law_top", "_law_deep_here"] ["_law_world", "_law_at", "_law_sign"] (defScope st__law_next) := ⟨rfl, rfl, rfl, by decide +kernel, rfl, by decide +kernel, by decide +kernel⟩
def b__law_next : dS := sSeq (sAsg (dVar 0) (gTL 4 (gsCons (gN 3) (gsCons (gN 4) (gsCons (gN 5) (gsCons (gN 6) (gsNil))))))) (sSeq (sAsg (dVar 1) (gTL 2 (gsCons (gN 7) (gsCons (gN 8) (gsNil))))) (sSeq (sPar 9 10 (aCons (dOp (oF fMul) (dVar 5) (dOp (oF fSub) (dOp (oF fMul) (dVar 5) (dVar 5)) (dOp (oF fMul) (dOp (oF fMul) (dC (.int 4)) (dVar 6)) (dVar 6)))) (aCons (dOp (oF fMul) (dOp (oF fMul) (dOp (oF fMul) (dC (.int 4)) (dVar 6)) (dVar 6)) (dVar 6)) (aNil)))) (sRet (dCall 1 sm__law_cut (aCons (dTup (aCons (dOp (oF fMul) (dVar 5) (dOp (oF fAdd) (dOp (oF fMul) (dVar 7) (dVar 10)) (dOp (oF fMul) (dOp (oF fMul) (dVar 2) (dVar 8)) (dVar 9)))) (aCons (dOp (oF fMul) (dVar 10) (dOp (oF fSub) (dOp (oF fMul) (dVar 5) (dVar 8)) (dOp (oF fMul) (dOp (oF fMul) (dVar 2) (dVar 6)) (dVar 7)))) (aNil)))) (aNil))))))
def sm__law_next : Sem := semOf ["_law_world", "_law_at", "_law_sign", "_law_n", "_law_m", "_law_a", "_law_b", "_law_i", "_law_j", "_law_top", "_law_deep_here"] b__law_next
theorem e__law_next (a0 a1 a2 : SV) (T : Tk) (k : KD) : sm__law_next [a0, a1, a2] T k = b__law_next { nx := fun _ T => k .non T, rt := k, bk := fun _ _ => False, ct := fun _ _ => False } [some a0, some a1, some a2, none, none, none, none, none, none, none, none] T := rfl
abbrev st__law_start : Stmt := topS 72
theorem sc__law_start : FnScope ["_law_well_here"] ["_law_well_here"] (defScope st__law_start) := ⟨rfl, rfl, rfl, by decide +kernel, rfl, by decide +kernel, by decide +kernel⟩
def b__law_start : dS := sSeq (sIf (dTst (dOp (oF fEq) (dCall 2 sm__law_dip (aTank 0 (aCons (dC (.int 8)) (aNil)))) (dC (.int 0)))) (sRet (dTup (aCons (dC (.int 1)) (aCons (dC (.int 0)) (aNil))))) ((fun k ρ T => k.nx ρ T))) (sRet (dCall 1 sm__law_cut (aCons (dTup (aCons (dCall 2 sm__law_whole (aTank 0 (aCons (dCall 2 sm__law_of (aTank 0 (aCons (dTup (aCons (dC (.int 1)) (aCons (dC (.int 3)) (aCons (dC (.int 9)) (aCons (dC (.int 40)) (aNil)))))) (aNil)))) (aNil)))) (aCons (dOp (oF fAdd) (dC (.int 1)) (dCall 2 sm__law_dip (aTank 0 (aCons (dC (.int 5)) (aNil))))) (aNil)))) (aNil))))
def sm__law_start : Sem := semOf ["_law_well_here"] b__law_start
theorem e__law_start (a0 : SV) (T : Tk) (k : KD) : sm__law_start [a0] T k = b__law_start { nx := fun _ T => k .non T, rt := k, bk := fun _ _ => False, ct := fun _ _ => False } [some a0] T := rfl
abbrev st__law_endless : Stmt := topS 73
theorem sc__law_endless : FnScope ["_law_well_here", "_law_b", "_law_a", "_law_n", "_law_m"] ["_law_well_here"] (defScope st__law_endless) := ⟨rfl, rfl, rfl, by decide +kernel, rfl, by decide +kernel, by decide +kernel⟩
def b__law_endless : dS := sSeq (sAsg (dOp (oF fAdd) (dC (.int 1)) (dCall 2 sm__law_dip (aTank 0 (aCons (dC (.int 4)) (aNil))))) (gN 1)) (sSeq (sAsg (dOp (oF fAdd) (dOp (oF fAdd) (dOp (oF fMul) (dC (.int 2)) (dVar 1)) (dC (.int 1))) (dCall 2 sm__law_dip (aTank 0 (aCons (dC (.int 9)) (aNil))))) (gN 2)) (sSeq (sAsg (dIf (dTst (dOp (oF fNe) (dVar 2) (dOp (oF fMul) (dC (.int 4)) (dVar 1)))) (dCall 1 sm__law_cut (aCons (dTup (aCons (dVar 2) (aCons (dVar 1) (aNil)))) (aNil))) (dTup (aCons (dC (.int 5)) (aCons (dC (.int 2)) (aNil))))) (gTL 2 (gsCons (gN 2) (gsCons (gN 1) (gsNil))))) (sSeq (sAsg (dCall 1 sm__law_cut (aCons (dTup (aCons (dOp (oF fSub) (dOp (oF fMul) (dVar 2) (dVar 2)) (dOp (oF fMul) (dOp (oF fMul) (dC (.int 2)) (dVar 1)) (dVar 1))) (aCons (dOp (oF fMul) (dOp (oF fMul) (dC (.int 2)) (dVar 1)) (dVar 1)) (aNil)))) (aNil))) (gTL 2 (gsCons (gN 3) (gsCons (gN 4) (gsNil))))) (sRet (dLst (aCons (dVar 3) (aCons (dVar 4) (aCons (dVar 2) (aCons (dVar 1) (aNil))))))))))
def sm__law_endless : Sem := semOf ["_law_well_here", "_law_b", "_law_a", "_law_n", "_law_m"] b__law_endless
theorem e__law_endless (a0 : SV) (T : Tk) (k : KD) : sm__law_endless [a0] T k = b__law_endless { nx := fun _ T => k .non T, rt := k, bk := fun _ _ => False, ct := fun _ _ => False } [some a0, none, none, none, none] T := rfl
abbrev st__law_chain : Stmt := topS 74
theorem sc__law_chain : FnScope ["_law_world", "_law_chart_here", "_law_at", "_law_many", "_law_first", "_law_sign", "_law_found", "_law_turn"] ["_law_world", "_law_chart_here", "_law_at", "_law_many"] (defScope st__law_chain) := ⟨rfl, rfl, rfl, by decide +kernel, rfl, by decide +kernel, by decide +kernel⟩
def b__law_chain : dS := sSeq (sAsg (dLc [5] (iQ (dTup (aCons (dC (.int 1)) (aCons (dNeg (dC (.int 1))) (aNil))))) (cN 5) dYes (dCall 2 sm__law_led_round (aCons (dVar 1) (aCons (dCall 2 sm__law_link (aCons (dVar 0) (aCons (dCall 3 sm__law_next (aCons (dVar 0) (aCons (dVar 2) (aCons (dVar 5) (aNil))))) (aNil)))) (aNil))))) (gN 4)) (sSeq (sParO 5 6 (dIf (dTst (dOp (oF fLtU) (dOp (oF fIx) (dVar 4) (dC (.int 0))) (dOp (oF fIx) (dVar 4) (dC (.int 1))))) (dC (.int 1)) (dNeg (dC (.int 1)))) (aNil)) (sSeq (sForI (iR1 (aCons (dVar 3) (aNil))) (gN 7) (sSeq (sApp 6 (dCall 2 sm__law_led_round (aCons (dVar 1) (aCons (dCall 2 sm__law_link (aCons (dVar 0) (aCons (dVar 2) (aNil)))) (aNil))))) (sAsg (dCall 3 sm__law_next (aCons (dVar 0) (aCons (dVar 2) (aCons (dVar 5) (aNil))))) (gN 2)))) (sFrq 6 (sRet (dBlt (oG fTuple) (aCons (dVar 6) (aNil)))))))
def sm__law_chain : Sem := semOf ["_law_world", "_law_chart_here", "_law_at", "_law_many", "_law_first", "_law_sign", "_law_found", "_law_turn"] b__law_chain
theorem e__law_chain (a0 a1 a2 a3 : SV) (T : Tk) (k : KD) : sm__law_chain [a0, a1, a2, a3] T k = b__law_chain { nx := fun _ T => k .non T, rt := k, bk := fun _ _ => False, ct := fun _ _ => False } [some a0, some a1, some a2, some a3, none, none, none, none] T := rfl
abbrev st__law_right : Stmt := topS 75
theorem sc__law_right : FnScope ["_law_well_here", "_law_world", "_law_chart_here", "_law_one", "_law_two", "_law_row", "_law_at", "_law_many", "_law_due", "_law_told", "_law_k", "_law_back_here"] ["_law_well_here"] (defScope st__law_right) := ⟨rfl, rfl, rfl, by decide +kernel, rfl, by decide +kernel, by decide +kernel⟩
def b__law_right : dS := sSeq (sAsg (dTup (aCons (dCall 1 sm__law_endless (aTank 0 (aNil))) (aCons (dCall 2 sm__law_map (aTank 0 (aCons (dCall 2 sm__law_of (aTank 0 (aCons (dTup (aCons (dC (.int 1)) (aCons (dC (.int 1)) (aCons (dC (.int 2)) (aCons (dC (.int 3)) (aCons (dC (.int 9)) (aNil))))))) (aNil)))) (aNil)))) (aNil)))) (gTL 2 (gsCons (gN 1) (gsCons (gN 2) (gsNil))))) (sSeq (sAsg (dLc [5] (iQ (dCall 1 sm__law_pair_of (aCons (dVar 1) (aNil)))) (cN 5) dYes (dCall 2 sm__law_led_round (aCons (dVar 2) (aCons (dVar 5) (aNil))))) (gTL 2 (gsCons (gN 3) (gsCons (gN 4) (gsNil))))) (sSeq (sIf (dTst (dOp (oF fEq) (dCall 2 sm__law_dip (aTank 0 (aCons (dC (.int 2)) (aNil)))) (dC (.int 0)))) (sPar 3 4 (aCons (dVar 4) (aCons (dVar 3) (aNil)))) ((fun k ρ T => k.nx ρ T))) (sSeq (sPar 6 7 (aCons (dCall 1 sm__law_start (aTank 0 (aNil))) (aCons (dOp (oF fAdd) (dC (.int 3)) (dCall 2 sm__law_dip (aTank 0 (aCons (dC (.int 7)) (aNil))))) (aNil)))) (sSeq (sAsg (dCall 4 sm__law_chain (aCons (dVar 1) (aCons (dVar 2) (aCons (dVar 6) (aCons (dVar 7) (aNil)))))) (gN 8)) (sSeq (sIf (dOr (dTst (dNotN (dCall 2 sm_chain_count (aCons (dVar 3) (aCons (dVar 4) (aNil)))))) (dTst (dOp (oF fNe) (dLenSet (dVar 8)) (dVar 7)))) (sRet (dC (.bl false))) ((fun k ρ T => k.nx ρ T))) (sSeq (sAsg (dLst (aCons (dCall 4 sm_links_on (aCons (dVar 3) (aCons (dVar 4) (aCons (dOp (oF fIx) (dVar 8) (dC (.int 0))) (aCons (dVar 7) (aNil)))))) (aCons (dCallP 4 [3, 2, 1, 0] sm_links_on (aCons (dC (.int 2)) (aCons (dOp (oF fIx) (dVar 8) (dC (.int 0))) (aCons (dVar 3) (aCons (dVar 4) (aNil)))))) (aCons (dCall 4 sm_links_on (aCons (dVar 3) (aCons (dVar 4) (aCons (dOp (oF fIx) (dVar 8) (dC (.int 0))) (aCons (dC (.int 1)) (aNil)))))) (aNil))))) (gN 9)) (sSeq (sIf (dTst (dOp (oF fNe) (dBlt (oG fRepr) (aCons (dVar 9) (aNil))) (dBlt (oG fRepr) (aCons (dLst (aCons (dVar 8) (aCons (dSlQ (dVar 8) (fun _ T k => k none T) (pSome (dC (.int 2)))) (aCons (dSlQ (dVar 8) (fun _ T k => k none T) (pSome (dC (.int 1)))) (aNil))))) (aNil))))) (sRet (dC (.bl false))) ((fun k ρ T => k.nx ρ T))) (sSeq (sForI (iR2 (aCons (dC (.int 1)) (aCons (dVar 7) (aNil)))) (gN 10) (sIf (dTst (dOp (oF fIsn) (dCall 4 sm_are_neighbours (aCons (dVar 3) (aCons (dVar 4) (aCons (dOp (oF fIx) (dVar 8) (dOp (oF fSub) (dVar 10) (dC (.int 1)))) (aCons (dOp (oF fIx) (dVar 8) (dVar 10)) (aNil)))))) (dC (.bl true)))) (sRet (dC (.bl false))) ((fun k ρ T => k.nx ρ T)))) (sSeq (sAsg (dOp (oF fAdd) (dC (.int 1)) (dCall 2 sm__law_dip (aTank 0 (aCons (dOp (oF fSub) (dVar 7) (dC (.int 2))) (aNil))))) (gN 10)) (sSeq (sIf (dTst (dOp (oF fNe) (dBlt (oG fRepr) (aCons (dCall 3 sm_next_links (aCons (dVar 3) (aCons (dVar 4) (aCons (dOp (oF fIx) (dVar 8) (dVar 10)) (aNil))))) (aNil))) (dBlt (oG fRepr) (aCons (dBlt (oG fTuple) (aCons (dBlt (oG fSortT) (aCons (dLst (aCons (dOp (oF fIx) (dVar 8) (dOp (oF fSub) (dVar 10) (dC (.int 1)))) (aCons (dOp (oF fIx) (dVar 8) (dOp (oF fAdd) (dVar 10) (dC (.int 1)))) (aNil)))) (aNil))) (aNil))) (aNil))))) (sRet (dC (.bl false))) ((fun k ρ T => k.nx ρ T))) (sSeq (sAsg (dCall 4 sm_links_on (aCons (dVar 3) (aCons (dVar 4) (aCons (dOp (oF fIx) (dVar 8) (dVar 10)) (aCons (dC (.int 2)) (aNil)))))) (gN 11)) (sRet (dAndV (dOp (oF fIs) (dCall 4 sm_are_neighbours (aCons (dVar 3) (aCons (dVar 4) (aCons (dOp (oF fIx) (dVar 8) (dC (.int 0))) (aCons (dOp (oF fIx) (dVar 8) (dC (.int 2))) (aNil)))))) (dC (.bl false))) (dOp (oF fEq) (dBlt (oG fRepr) (aCons (dVar 11) (aNil))) (dBlt (oG fRepr) (aCons (dTup (aCons (dOp (oF fIx) (dVar 8) (dVar 10)) (aCons (dBlt (oG fMinT) (aCons (dOp (oF fIx) (dVar 8) (dOp (oF fSub) (dVar 10) (dC (.int 1)))) (aCons (dOp (oF fIx) (dVar 8) (dOp (oF fAdd) (dVar 10) (dC (.int 1)))) (aNil)))) (aNil)))) (aNil)))))))))))))))))
def sm__law_right : Sem := semOf ["_law_well_here", "_law_world", "_law_chart_here", "_law_one", "_law_two", "_law_row", "_law_at", "_law_many", "_law_due", "_law_told", "_law_k", "_law_back_here"] b__law_right
theorem e__law_right (a0 : SV) (T : Tk) (k : KD) : sm__law_right [a0] T k = b__law_right { nx := fun _ T => k .non T, rt := k, bk := fun _ _ => False, ct := fun _ _ => False } [some a0, none, none, none, none, none, none, none, none, none, none, none] T := rfl
abbrev st_law : Stmt := topS 76
theorem sc_law : FnScope ["_law_script", "_law_spot"] ["_law_script"] (defScope st_law) := ⟨rfl, rfl, rfl, by decide +kernel, rfl, by decide +kernel, by decide +kernel⟩
def b_law : dS := sSeq (sForI (iR1 (aCons (dCall 1 sm__law_rounds (aCons (dVar 0) (aNil))) (aNil))) (gN 1) (sIf (dNot (dTst (dCallT 2 sm__law_right sm__law_well (aCons (dVar 0) (aCons (dVar 1) (aNil)))))) (sRet (dC (.bl false))) ((fun k ρ T => k.nx ρ T)))) (sRet (dC (.bl true)))
def sm_law : Sem := semOf ["_law_script", "_law_spot"] b_law
theorem e_law (a0 : SV) (T : Tk) (k : KD) : sm_law [a0] T k = b_law { nx := fun _ T => k .non T, rt := k, bk := fun _ _ => False, ct := fun _ _ => False } [some a0, none] T := rfl
def hdD0 : List (Str × Stmt) := [("is_whole", st_is_whole), ("is_between", st_is_between), ("are_wholes", st_are_wholes), ("divisor_of", st_divisor_of), ("lowest", st_lowest), ("is_lowest", st_is_lowest), ("is_led_up", st_is_led_up), ("first_above", st_first_above), ("fraction", st_fraction), ("bend", st_bend), ("is_row", st_is_row), ("is_round", st_is_round), ("check_round", st_check_round), ("joint", st_joint), ("minor", st_minor), ("determinant_of", st_determinant_of), ("row_across", st_row_across), ("crossing", st_crossing), ("check_pair", st_check_pair), ("check_unlike", st_check_unlike), ("weights_for", st_weights_for), ("mixed", st_mixed), ("depth", st_depth), ("check_apart", st_check_apart), ("is_link_of", st_is_link_of)]
def hdD1 : List (Str × Stmt) := [("check_link", st_check_link), ("neighbours_of", st_neighbours_of), ("chain_count", st_chain_count), ("are_neighbours", st_are_neighbours), ("next_links", st_next_links), ("links_on", st_links_on), ("_law_well", st__law_well), ("_law_dip", st__law_dip), ("_law_of", st__law_of), ("_law_whole", st__law_whole), ("_law_rounds", st__law_rounds), ("_law_gcd", st__law_gcd), ("_law_cut", st__law_cut), ("_law_form", st__law_form), ("_law_times", st__law_times), ("_law_plus", st__law_plus), ("_law_minus", st__law_minus), ("_law_conj", st__law_conj), ("_law_norm", st__law_norm), ("_law_scaled", st__law_scaled), ("_law_over", st__law_over), ("_law_deep", st__law_deep), ("_law_quarter", st__law_quarter), ("_law_chart", st__law_chart), ("_law_back", st__law_back)]
def hdD2 : List (Str × Stmt) := [("_law_row_back", st__law_row_back), ("_law_led_round", st__law_led_round), ("_law_four", st__law_four), ("_law_map", st__law_map), ("_law_pair_of", st__law_pair_of), ("_law_link", st__law_link), ("_law_next", st__law_next), ("_law_start", st__law_start), ("_law_endless", st__law_endless), ("_law_chain", st__law_chain), ("_law_right", st__law_right), ("law", st_law)]
def hdDefs : List (Str × Stmt) := hdD0 ++ hdD1 ++ hdD2
def hdFree : List Str := ["abs", "all", "bool", "divmod", "int", "isinstance", "len", "max", "min", "range", "repr", "set", "sorted", "tuple", "zip"]
def hdBlt : List (Str × String) := [("gcd", "math.gcd"), ("isqrt", "math.isqrt")]
def hdCons : List (Str × D) := [("MOST_LINKS", k_MOST_LINKS)]
def hdTab : List (Str × List (List Int × Int)) := [("COUNTS", t_COUNTS)]
def hdCls : List Str := []
def hdPrs : List (Str × Str) := []
def hdIni : List (Str × Str × Str × Stmt) := []
def hdExs : List Str := []
def hdKis : List (Str × Str × Bool) := []
def hdKib : List (Str × String × Bool) := []
def hd : Hd := ⟨hdDefs, hdFree, hdBlt, hdCons, hdCls, hdPrs, hdIni, hdExs, hdKis, hdKib, false, [], hdTab⟩
def hdN0 : List Str := ["ArmError", "InvalidRound", "InvalidNumber", "NoLink", "Same", "Meets", "is_whole", "is_between", "are_wholes", "divisor_of", "lowest", "is_lowest", "is_led_up", "first_above", "fraction", "bend", "is_row", "is_round", "check_round", "joint", "minor", "determinant_of", "row_across", "crossing", "check_pair", "check_unlike", "weights_for", "mixed", "depth", "MOST_LINKS"]
def hdN1 : List Str := ["COUNTS", "check_apart", "is_link_of", "check_link", "neighbours_of", "chain_count", "are_neighbours", "next_links", "links_on", "_law_well", "_law_dip", "_law_of", "_law_whole", "_law_rounds", "_law_gcd", "_law_cut", "_law_form", "_law_times", "_law_plus", "_law_minus", "_law_conj", "_law_norm", "_law_scaled", "_law_over", "_law_deep", "_law_quarter", "_law_chart", "_law_back", "_law_row_back", "_law_led_round"]
def hdN2 : List Str := ["_law_four", "_law_map", "_law_pair_of", "_law_link", "_law_next", "_law_start", "_law_endless", "_law_chain", "_law_right"]
def hdNames : List Str := hdN0 ++ hdN1 ++ hdN2
abbrev hdR : PySem.W.OpenRow := PySem.W.OpenLaw.row PySem.Challenge.rw_drawarms_k64_whole_chains_that_never_clo
abbrev hdV : Program := PySem.W.view hdR.prog [0, 76]
abbrev hdK : PySem.W.Hook := hd.hook
def hdO (s : PySem.W.SharedT) : HdA := hd.obsG (HandSHeadRun.getT s)
theorem hdO_eq (s : PySem.W.SharedT) : hdO s = hdK.obs s.abs := Hd.obs_eq (HandSHeadRun.getT_eq s)
def wSet (w : World) (b : Bool) : World := { w with params := { w.params with followText := fun r => bif decide (r = "special-get-raises") then b else w.params.followText r } }
theorem wSet_self (w : World) : wSet w (w.params.followText "special-get-raises") = w := by
  unfold wSet
  have : (fun r => bif decide (r = "special-get-raises") then w.params.followText "special-get-raises" else w.params.followText r) = w.params.followText := by
    funext r
    by_cases h : r = "special-get-raises"
    · rw [h]; rfl
    · rw [decide_eq_false h]; rfl
  rw [this]
theorem hd_run_t (w : World) : HandSHeadRun.RunEqI hdR hdV hdK hdO 20000 hdNames (wSet w true) := by
  unfold HandSHeadRun.RunEqI
  kernel_rfl
theorem hd_run_f (w : World) : HandSHeadRun.RunEqI hdR hdV hdK hdO 20000 hdNames (wSet w false) := by
  unfold HandSHeadRun.RunEqI
  kernel_rfl
theorem hd_run (w : World) : HandSHeadRun.RunEqI hdR hdV hdK hdO 20000 hdNames w := by
  rw [← wSet_self w]
  cases w.params.followText "special-get-raises"
  · exact hd_run_f w
  · exact hd_run_t w
structure Tx (K : PySem.W.Frag) (mg : Str → Option Value) : Prop where
  d_is_whole : Df K mg "is_whole" st_is_whole
  d_is_between : Df K mg "is_between" st_is_between
  d_are_wholes : Df K mg "are_wholes" st_are_wholes
  d_divisor_of : Df K mg "divisor_of" st_divisor_of
  d_lowest : Df K mg "lowest" st_lowest
  d_is_lowest : Df K mg "is_lowest" st_is_lowest
  d_is_led_up : Df K mg "is_led_up" st_is_led_up
  d_first_above : Df K mg "first_above" st_first_above
  d_fraction : Df K mg "fraction" st_fraction
  d_bend : Df K mg "bend" st_bend
  d_is_row : Df K mg "is_row" st_is_row
  d_is_round : Df K mg "is_round" st_is_round
  d_check_round : Df K mg "check_round" st_check_round
  d_joint : Df K mg "joint" st_joint
  d_minor : Df K mg "minor" st_minor
  d_determinant_of : Df K mg "determinant_of" st_determinant_of
  d_row_across : Df K mg "row_across" st_row_across
  d_crossing : Df K mg "crossing" st_crossing
  d_check_pair : Df K mg "check_pair" st_check_pair
  d_check_unlike : Df K mg "check_unlike" st_check_unlike
  d_weights_for : Df K mg "weights_for" st_weights_for
  d_mixed : Df K mg "mixed" st_mixed
  d_depth : Df K mg "depth" st_depth
  d_check_apart : Df K mg "check_apart" st_check_apart
  d_is_link_of : Df K mg "is_link_of" st_is_link_of
  d_check_link : Df K mg "check_link" st_check_link
  d_neighbours_of : Df K mg "neighbours_of" st_neighbours_of
  d_chain_count : Df K mg "chain_count" st_chain_count
  d_are_neighbours : Df K mg "are_neighbours" st_are_neighbours
  d_next_links : Df K mg "next_links" st_next_links
  d_links_on : Df K mg "links_on" st_links_on
  d__law_well : Df K mg "_law_well" st__law_well
  d__law_dip : Df K mg "_law_dip" st__law_dip
  d__law_of : Df K mg "_law_of" st__law_of
  d__law_whole : Df K mg "_law_whole" st__law_whole
  d__law_rounds : Df K mg "_law_rounds" st__law_rounds
  d__law_gcd : Df K mg "_law_gcd" st__law_gcd
  d__law_cut : Df K mg "_law_cut" st__law_cut
  d__law_form : Df K mg "_law_form" st__law_form
  d__law_times : Df K mg "_law_times" st__law_times
  d__law_plus : Df K mg "_law_plus" st__law_plus
  d__law_minus : Df K mg "_law_minus" st__law_minus
  d__law_conj : Df K mg "_law_conj" st__law_conj
  d__law_norm : Df K mg "_law_norm" st__law_norm
  d__law_scaled : Df K mg "_law_scaled" st__law_scaled
  d__law_over : Df K mg "_law_over" st__law_over
  d__law_deep : Df K mg "_law_deep" st__law_deep
  d__law_quarter : Df K mg "_law_quarter" st__law_quarter
  d__law_chart : Df K mg "_law_chart" st__law_chart
  d__law_back : Df K mg "_law_back" st__law_back
  d__law_row_back : Df K mg "_law_row_back" st__law_row_back
  d__law_led_round : Df K mg "_law_led_round" st__law_led_round
  d__law_four : Df K mg "_law_four" st__law_four
  d__law_map : Df K mg "_law_map" st__law_map
  d__law_pair_of : Df K mg "_law_pair_of" st__law_pair_of
  d__law_link : Df K mg "_law_link" st__law_link
  d__law_next : Df K mg "_law_next" st__law_next
  d__law_start : Df K mg "_law_start" st__law_start
  d__law_endless : Df K mg "_law_endless" st__law_endless
  d__law_chain : Df K mg "_law_chain" st__law_chain
  d__law_right : Df K mg "_law_right" st__law_right
  d_law : Df K mg "law" st_law
  z_abs : mg "abs" = none
  z_all : mg "all" = none
  z_bool : mg "bool" = none
  z_divmod : mg "divmod" = none
  z_int : mg "int" = none
  z_isinstance : mg "isinstance" = none
  z_len : mg "len" = none
  z_max : mg "max" = none
  z_min : mg "min" = none
  z_range : mg "range" = none
  z_repr : mg "repr" = none
  z_set : mg "set" = none
  z_sorted : mg "sorted" = none
  z_tuple : mg "tuple" = none
  z_zip : mg "zip" = none
  b_gcd : mg "gcd" = some (.builtin "math.gcd")
  b_isqrt : mg "isqrt" = some (.builtin "math.isqrt")
  c_MOST_LINKS : GC K mg "MOST_LINKS" k_MOST_LINKS
  t_COUNTS : GT K mg "COUNTS" t_COUNTS
section
variable {P : Program} {w : World} {K : PySem.W.Frag} {mg : Str → Option Value} {base : Heap}
theorem ok_is_whole (T : Tx K mg) : Ok P w K mg base 1 "is_whole" ["value"] sm_is_whole := by
  refine ok_def (N := ["value"]) T.d_is_whole sc_is_whole (fun _ _ _ _ _ _ us hl => match us, hl with | [_], _ => rfl) (fun _ _ _ _ _ _ us hl => match us, hl with | [_], _ => rfl) fun f cdv A fs s H E hq hr hgd => ?_
  have nd := sc_is_whole.nd
  exact ss_one (s_ret (d_andV (d_isi .int (d_var 0) T.z_isinstance T.z_int) (d_v1 (d_notV (d_isi .bool (d_var 0) T.z_isinstance T.z_bool)))))
theorem ok_is_between (T : Tx K mg) : Ok P w K mg base 2 "is_between" ["value", "low", "high"] sm_is_between := by
  refine ok_def (N := ["value", "low", "high"]) T.d_is_between sc_is_between (fun _ _ _ _ _ _ us hl => match us, hl with | [_, _, _], _ => rfl) (fun _ _ _ _ _ _ us hl => match us, hl with | [_, _, _], _ => rfl) fun f cdv A fs s H E hq hr hgd => ?_
  have nd := sc_is_between.nd
  exact ss_one (s_ret (d_andV (d_call (ok_is_whole T) (hr.mono (by decide)) hgd (a_cons (d_var 0) (a_nil))) (d_andV (d_fle (d_var 1) (d_var 0)) (d_v1 (d_fle (d_var 0) (d_var 2))))))
theorem ok_are_wholes (T : Tx K mg) : Ok P w K mg base 2 "are_wholes" ["value", "many"] sm_are_wholes := by
  refine ok_def (N := ["value", "many", "number"]) T.d_are_wholes sc_are_wholes (fun _ _ _ _ _ _ us hl => match us, hl with | [_, _], _ => rfl) (fun _ _ _ _ _ _ us hl => match us, hl with | [_, _], _ => rfl) fun f cdv A fs s H E hq hr hgd => ?_
  have nd := sc_are_wholes.nd
  exact ss_one (s_ret (d_andV (d_isi .tuple (d_var 0) T.z_isinstance T.z_tuple) (d_andV (d_feq hr (g_len T.z_len (a_cons (d_var 0) (a_nil))) (d_var 1)) (d_v1 (g_all rfl T.z_all (a_cons (d_lc [("number", 2)] rfl nd (g_seq (d_var 0)) (cg_name) (fun _ _ _ _ _ => pg_name (i := 2) nd rfl (by first | exact Or.inl rfl | exact Or.inr rfl)) (fun _ _ _ _ _ => ts_nil) (fun _ _ _ _ _ => d_call (ok_is_whole T) (hr.mono (by decide)) hgd (a_cons (d_var 2) (a_nil))) (ok := blkOk_by (N := ["value", "many", "number"]) (sc := defScope st_are_wholes) (by decide +kernel))) (a_nil)))))))
theorem ok_divisor_of (T : Tx K mg) : Ok P w K mg base 1 "divisor_of" ["numbers"] sm_divisor_of := by
  refine ok_def (N := ["numbers", "found", "number"]) T.d_divisor_of sc_divisor_of (fun _ _ _ _ _ _ us hl => match us, hl with | [_], _ => rfl) (fun _ _ _ _ _ _ us hl => match us, hl with | [_], _ => rfl) fun f cdv A fs s H E hq hr hgd => ?_
  have nd := sc_divisor_of.nd
  exact ss_cons (s_set 1 nd (d_int)) (ss_cons (s_forI PassesOwn.never rfl (g_seq (d_var 0)) (g_name 2 nd) (ss_one (s_set 1 nd (g_gcd T.b_gcd (a_cons (d_var 1) (a_cons (d_var 2) (a_nil))))))) (ss_one (s_ret (d_var 1))))
theorem ok_lowest (T : Tx K mg) : Ok P w K mg base 2 "lowest" ["numbers"] sm_lowest := by
  refine ok_def (N := ["numbers", "divisor", "number"]) T.d_lowest sc_lowest (fun _ _ _ _ _ _ us hl => match us, hl with | [_], _ => rfl) (fun _ _ _ _ _ _ us hl => match us, hl with | [_], _ => rfl) fun f cdv A fs s H E hq hr hgd => ?_
  have nd := sc_lowest.nd
  exact ss_cons (s_set 1 nd (d_call (ok_divisor_of T) (hr.mono (by decide)) hgd (a_cons (d_var 0) (a_nil)))) (ss_one (s_ret (g_totup T.z_tuple (a_cons (d_lc [("number", 2)] rfl nd (g_seq (d_var 0)) (cg_name) (fun _ _ _ _ _ => pg_name (i := 2) nd rfl (by first | exact Or.inl rfl | exact Or.inr rfl)) (fun _ _ _ _ _ => ts_nil) (fun _ _ _ _ _ => f_div (d_var 2) (d_var 1)) (ok := blkOk_by (N := ["numbers", "divisor", "number"]) (sc := defScope st_lowest) (by decide +kernel))) (a_nil)))))
theorem ok_is_lowest (T : Tx K mg) : Ok P w K mg base 2 "is_lowest" ["numbers"] sm_is_lowest := by
  refine ok_def (N := ["numbers"]) T.d_is_lowest sc_is_lowest (fun _ _ _ _ _ _ us hl => match us, hl with | [_], _ => rfl) (fun _ _ _ _ _ _ us hl => match us, hl with | [_], _ => rfl) fun f cdv A fs s H E hq hr hgd => ?_
  have nd := sc_is_lowest.nd
  exact ss_one (s_ret (d_feq hr (d_call (ok_divisor_of T) (hr.mono (by decide)) hgd (a_cons (d_var 0) (a_nil))) (d_int)))
theorem ok_is_led_up (T : Tx K mg) : Ok P w K mg base 1 "is_led_up" ["numbers"] sm_is_led_up := by
  refine ok_def (N := ["numbers", "number"]) T.d_is_led_up sc_is_led_up (fun _ _ _ _ _ _ us hl => match us, hl with | [_], _ => rfl) (fun _ _ _ _ _ _ us hl => match us, hl with | [_], _ => rfl) fun f cdv A fs s H E hq hr hgd => ?_
  have nd := sc_is_led_up.nd
  exact ss_cons (s_forI PassesOwn.never rfl (g_seq (d_var 0)) (g_name 1 nd) (ss_one (s_if (t_fne hr (d_var 1) (d_int)) (ss_one (s_ret (d_fgt (d_var 1) (d_int)))) (ss_nil)))) (ss_one (s_ret (d_bl)))
theorem ok_first_above (T : Tx K mg) : Ok P w K mg base 3 "first_above" ["numbers"] sm_first_above := by
  refine ok_def (N := ["numbers", "found", "number"]) T.d_first_above sc_first_above (fun _ _ _ _ _ _ us hl => match us, hl with | [_], _ => rfl) (fun _ _ _ _ _ _ us hl => match us, hl with | [_], _ => rfl) fun f cdv A fs s H E hq hr hgd => ?_
  have nd := sc_first_above.nd
  exact ss_cons (s_set 1 nd (d_call (ok_lowest T) (hr.mono (by decide)) hgd (a_cons (d_var 0) (a_nil)))) (ss_one (s_ret (d_if (d_tst (d_call (ok_is_led_up T) (hr.mono (by decide)) hgd (a_cons (d_var 1) (a_nil)))) (d_var 1) (g_totup T.z_tuple (a_cons (d_lc [("number", 2)] rfl nd (g_seq (d_var 1)) (cg_name) (fun _ _ _ _ _ => pg_name (i := 2) nd rfl (by first | exact Or.inl rfl | exact Or.inr rfl)) (fun _ _ _ _ _ => ts_nil) (fun _ _ _ _ _ => d_neg (d_var 2)) (ok := blkOk_by (N := ["numbers", "found", "number"]) (sc := defScope st_first_above) (by decide +kernel))) (a_nil))))))
theorem ok_fraction (T : Tx K mg) : Ok P w K mg base 3 "fraction" ["number", "below"] sm_fraction := by
  refine ok_def (N := ["number", "below"]) T.d_fraction sc_fraction (fun _ _ _ _ _ _ us hl => match us, hl with | [_, _], _ => rfl) (fun _ _ _ _ _ _ us hl => match us, hl with | [_, _], _ => rfl) fun f cdv A fs s H E hq hr hgd => ?_
  have nd := sc_fraction.nd
  exact ss_one (s_ret (d_if (t_fgt (d_var 1) (d_int)) (d_call (ok_lowest T) (hr.mono (by decide)) hgd (a_cons (d_tup (a_cons (d_var 0) (a_cons (d_var 1) (a_nil)))) (a_nil))) (d_call (ok_lowest T) (hr.mono (by decide)) hgd (a_cons (d_tup (a_cons (d_neg (d_var 0)) (a_cons (d_neg (d_var 1)) (a_nil)))) (a_nil)))))
theorem ok_bend (T : Tx K mg) : Ok P w K mg base 1 "bend" ["row"] sm_bend := by
  refine ok_def (N := ["row"]) T.d_bend sc_bend (fun _ _ _ _ _ _ us hl => match us, hl with | [_], _ => rfl) (fun _ _ _ _ _ _ us hl => match us, hl with | [_], _ => rfl) fun f cdv A fs s H E hq hr hgd => ?_
  have nd := sc_bend.nd
  exact ss_one (s_ret (f_sub (f_add (f_mul (f_ix (d_var 0) (d_int)) (f_ix (d_var 0) (d_int))) (f_mul (f_ix (d_var 0) (d_int)) (f_ix (d_var 0) (d_int)))) (f_mul (f_mul (d_int) (f_ix (d_var 0) (d_int))) (f_ix (d_var 0) (d_int)))))
theorem ok_is_row (T : Tx K mg) : Ok P w K mg base 3 "is_row" ["value"] sm_is_row := by
  refine ok_def (N := ["value"]) T.d_is_row sc_is_row (fun _ _ _ _ _ _ us hl => match us, hl with | [_], _ => rfl) (fun _ _ _ _ _ _ us hl => match us, hl with | [_], _ => rfl) fun f cdv A fs s H E hq hr hgd => ?_
  have nd := sc_is_row.nd
  exact ss_one (s_ret (d_andV (d_call (ok_are_wholes T) (hr.mono (by decide)) hgd (a_cons (d_var 0) (a_cons (d_int) (a_nil)))) (d_andV (d_call (ok_is_lowest T) (hr.mono (by decide)) hgd (a_cons (d_var 0) (a_nil))) (d_v1 (d_fgt (d_call (ok_bend T) (hr.mono (by decide)) hgd (a_cons (d_var 0) (a_nil))) (d_int))))))
theorem ok_is_round (T : Tx K mg) : Ok P w K mg base 4 "is_round" ["value"] sm_is_round := by
  refine ok_def (N := ["value"]) T.d_is_round sc_is_round (fun _ _ _ _ _ _ us hl => match us, hl with | [_], _ => rfl) (fun _ _ _ _ _ _ us hl => match us, hl with | [_], _ => rfl) fun f cdv A fs s H E hq hr hgd => ?_
  have nd := sc_is_round.nd
  exact ss_one (s_ret (d_andV (d_call (ok_is_row T) (hr.mono (by decide)) hgd (a_cons (d_var 0) (a_nil))) (d_v1 (d_call (ok_is_led_up T) (hr.mono (by decide)) hgd (a_cons (d_var 0) (a_nil))))))
theorem ok_check_round (T : Tx K mg) : Ok P w K mg base 5 "check_round" ["value"] sm_check_round := by
  refine ok_def (N := ["value"]) T.d_check_round sc_check_round (fun _ _ _ _ _ _ us hl => match us, hl with | [_], _ => rfl) (fun _ _ _ _ _ _ us hl => match us, hl with | [_], _ => rfl) fun f cdv A fs s H E hq hr hgd => ?_
  have nd := sc_check_round.nd
  exact ss_one (s_if (d_tnot (d_tst (d_call (ok_is_round T) (hr.mono (by decide)) hgd (a_cons (d_var 0) (a_nil))))) (ss_one (s_never)) (ss_nil))
theorem ok_joint (T : Tx K mg) : Ok P w K mg base 1 "joint" ["row", "other"] sm_joint := by
  refine ok_def (N := ["row", "other"]) T.d_joint sc_joint (fun _ _ _ _ _ _ us hl => match us, hl with | [_, _], _ => rfl) (fun _ _ _ _ _ _ us hl => match us, hl with | [_, _], _ => rfl) fun f cdv A fs s H E hq hr hgd => ?_
  have nd := sc_joint.nd
  exact ss_one (s_ret (f_sub (f_add (f_mul (f_ix (d_var 0) (d_int)) (f_ix (d_var 1) (d_int))) (f_mul (f_ix (d_var 0) (d_int)) (f_ix (d_var 1) (d_int)))) (f_mul (d_int) (f_add (f_mul (f_ix (d_var 0) (d_int)) (f_ix (d_var 1) (d_int))) (f_mul (f_ix (d_var 1) (d_int)) (f_ix (d_var 0) (d_int)))))))
theorem ok_minor (T : Tx K mg) : Ok P w K mg base 1 "minor" ["first", "second", "places"] sm_minor := by
  refine ok_def (N := ["first", "second", "places", "one", "two"]) T.d_minor sc_minor (fun _ _ _ _ _ _ us hl => match us, hl with | [_, _, _], _ => rfl) (fun _ _ _ _ _ _ us hl => match us, hl with | [_, _, _], _ => rfl) fun f cdv A fs s H E hq hr hgd => ?_
  have nd := sc_minor.nd
  exact ss_cons (s_asg (d_var 2) (g_unp rfl (gs_cons (g_name 3 nd) (gs_cons (g_name 4 nd) (gs_nil))))) (ss_one (s_ret (f_sub (f_mul (f_ix (d_var 0) (d_var 3)) (f_ix (d_var 1) (d_var 4))) (f_mul (f_ix (d_var 0) (d_var 4)) (f_ix (d_var 1) (d_var 3))))))
theorem ok_determinant_of (T : Tx K mg) : Ok P w K mg base 2 "determinant_of" ["first", "second", "third", "places"] sm_determinant_of := by
  refine ok_def (N := ["first", "second", "third", "places", "one", "two", "three"]) T.d_determinant_of sc_determinant_of (fun _ _ _ _ _ _ us hl => match us, hl with | [_, _, _, _], _ => rfl) (fun _ _ _ _ _ _ us hl => match us, hl with | [_, _, _, _], _ => rfl) fun f cdv A fs s H E hq hr hgd => ?_
  have nd := sc_determinant_of.nd
  exact ss_cons (s_asg (d_var 3) (g_unp rfl (gs_cons (g_name 4 nd) (gs_cons (g_name 5 nd) (gs_cons (g_name 6 nd) (gs_nil)))))) (ss_one (s_ret (f_add (f_sub (f_mul (f_ix (d_var 0) (d_var 4)) (d_call (ok_minor T) (hr.mono (by decide)) hgd (a_cons (d_var 1) (a_cons (d_var 2) (a_cons (d_tup (a_cons (d_var 5) (a_cons (d_var 6) (a_nil)))) (a_nil)))))) (f_mul (f_ix (d_var 0) (d_var 5)) (d_call (ok_minor T) (hr.mono (by decide)) hgd (a_cons (d_var 1) (a_cons (d_var 2) (a_cons (d_tup (a_cons (d_var 4) (a_cons (d_var 6) (a_nil)))) (a_nil))))))) (f_mul (f_ix (d_var 0) (d_var 6)) (d_call (ok_minor T) (hr.mono (by decide)) hgd (a_cons (d_var 1) (a_cons (d_var 2) (a_cons (d_tup (a_cons (d_var 4) (a_cons (d_var 5) (a_nil)))) (a_nil)))))))))
theorem ok_row_across (T : Tx K mg) : Ok P w K mg base 3 "row_across" ["first", "second", "third"] sm_row_across := by
  refine ok_def (N := ["first", "second", "third", "found", "place", "others", "other"]) T.d_row_across sc_row_across (fun _ _ _ _ _ _ us hl => match us, hl with | [_, _, _], _ => rfl) (fun _ _ _ _ _ _ us hl => match us, hl with | [_, _, _], _ => rfl) fun f cdv A fs s H E hq hr hgd => ?_
  have nd := sc_row_across.nd
  exact ss_cons (s_own 3 nd (a_nil)) (ss_cons (s_forI PassesOwn.never rfl (i_range1 T.z_range (a_cons (d_int) (a_nil))) (g_name 4 nd) (ss_cons (s_set 5 nd (g_totup T.z_tuple (a_cons (d_lc [("other", 6)] rfl nd (i_range1 T.z_range (a_cons (d_int) (a_nil))) (cg_name) (fun _ _ _ _ _ => pg_name (i := 6) nd rfl (by first | exact Or.inl rfl | exact Or.inr rfl)) (fun _ _ _ _ _ => ts_one (t_fne hr (d_var 6) (d_var 4))) (fun _ _ _ _ _ => d_var 6) (ok := blkOk_by (N := ["first", "second", "third", "found", "place", "others", "other"]) (sc := defScope st_row_across) (by decide +kernel))) (a_nil)))) (ss_one (s_app 3 (f_mul (f_sub (d_int) (f_mul (d_int) (f_mod (d_var 4) (d_int)))) (d_call (ok_determinant_of T) (hr.mono (by decide)) hgd (a_cons (d_var 0) (a_cons (d_var 1) (a_cons (d_var 2) (a_cons (d_var 5) (a_nil))))))))))) (ss_one (s_frq 3 (s_ret (g_totup T.z_tuple (a_cons (d_var 3) (a_nil)))))))
theorem ok_crossing (T : Tx K mg) : Ok P w K mg base 6 "crossing" ["circle", "other"] sm_crossing := by
  refine ok_def (N := ["circle", "other"]) T.d_crossing sc_crossing (fun _ _ _ _ _ _ us hl => match us, hl with | [_, _], _ => rfl) (fun _ _ _ _ _ _ us hl => match us, hl with | [_, _], _ => rfl) fun f cdv A fs s H E hq hr hgd => ?_
  have nd := sc_crossing.nd
  exact ss_cons (s_expr (d_call (ok_check_round T) (hr.mono (by decide)) hgd (a_cons (d_var 0) (a_nil)))) (ss_cons (s_expr (d_call (ok_check_round T) (hr.mono (by decide)) hgd (a_cons (d_var 1) (a_nil)))) (ss_one (s_ret (d_call (ok_fraction T) (hr.mono (by decide)) hgd (a_cons (f_mul (d_call (ok_joint T) (hr.mono (by decide)) hgd (a_cons (d_var 0) (a_cons (d_var 1) (a_nil)))) (d_call (ok_joint T) (hr.mono (by decide)) hgd (a_cons (d_var 0) (a_cons (d_var 1) (a_nil))))) (a_cons (f_mul (d_call (ok_bend T) (hr.mono (by decide)) hgd (a_cons (d_var 0) (a_nil))) (d_call (ok_bend T) (hr.mono (by decide)) hgd (a_cons (d_var 1) (a_nil)))) (a_nil)))))))
theorem ok_check_pair (T : Tx K mg) : Ok P w K mg base 6 "check_pair" ["circle", "other"] sm_check_pair := by
  refine ok_def (N := ["circle", "other"]) T.d_check_pair sc_check_pair (fun _ _ _ _ _ _ us hl => match us, hl with | [_, _], _ => rfl) (fun _ _ _ _ _ _ us hl => match us, hl with | [_, _], _ => rfl) fun f cdv A fs s H E hq hr hgd => ?_
  have nd := sc_check_pair.nd
  exact ss_cons (s_expr (d_call (ok_check_round T) (hr.mono (by decide)) hgd (a_cons (d_var 0) (a_nil)))) (ss_one (s_expr (d_call (ok_check_round T) (hr.mono (by decide)) hgd (a_cons (d_var 1) (a_nil)))))
theorem ok_check_unlike (T : Tx K mg) : Ok P w K mg base 1 "check_unlike" ["circle", "other"] sm_check_unlike := by
  refine ok_def (N := ["circle", "other"]) T.d_check_unlike sc_check_unlike (fun _ _ _ _ _ _ us hl => match us, hl with | [_, _], _ => rfl) (fun _ _ _ _ _ _ us hl => match us, hl with | [_, _], _ => rfl) fun f cdv A fs s H E hq hr hgd => ?_
  have nd := sc_check_unlike.nd
  exact ss_one (s_if (t_feq hr (d_var 0) (d_var 1)) (ss_one (s_never)) (ss_nil))
theorem ok_weights_for (T : Tx K mg) : Ok P w K mg base 1 "weights_for" ["row"] sm_weights_for := by
  refine ok_def (N := ["row"]) T.d_weights_for sc_weights_for (fun _ _ _ _ _ _ us hl => match us, hl with | [_], _ => rfl) (fun _ _ _ _ _ _ us hl => match us, hl with | [_], _ => rfl) fun f cdv A fs s H E hq hr hgd => ?_
  have nd := sc_weights_for.nd
  exact ss_one (s_ret (d_tup (a_cons (f_mul (d_neg (d_int)) (f_ix (d_var 0) (d_int))) (a_cons (f_ix (d_var 0) (d_int)) (a_cons (f_ix (d_var 0) (d_int)) (a_cons (f_mul (d_neg (d_int)) (f_ix (d_var 0) (d_int))) (a_nil)))))))
theorem ok_mixed (T : Tx K mg) : Ok P w K mg base 1 "mixed" ["one", "row", "two", "other"] sm_mixed := by
  refine ok_def (N := ["one", "row", "two", "other", "x", "y"]) T.d_mixed sc_mixed (fun _ _ _ _ _ _ us hl => match us, hl with | [_, _, _, _], _ => rfl) (fun _ _ _ _ _ _ us hl => match us, hl with | [_, _, _, _], _ => rfl) fun f cdv A fs s H E hq hr hgd => ?_
  have nd := sc_mixed.nd
  exact ss_one (s_ret (g_totup T.z_tuple (a_cons (d_lc [("x", 4), ("y", 5)] rfl nd (i_zipA T.z_zip (a_cons (d_var 1) (a_cons (d_var 3) (a_nil)))) (cg_tup (is := [4, 5])) (fun _ _ _ _ _ => pg_tup rfl (pgs_cons (pg_name (i := 4) nd rfl (by first | exact Or.inl rfl | exact Or.inr rfl)) (pgs_cons (pg_name (i := 5) nd rfl (by first | exact Or.inl rfl | exact Or.inr rfl)) (pgs_nil)))) (fun _ _ _ _ _ => ts_nil) (fun _ _ _ _ _ => f_add (f_mul (d_var 0) (d_var 4)) (f_mul (d_var 2) (d_var 5))) (ok := blkOk_by (N := ["one", "row", "two", "other", "x", "y"]) (sc := defScope st_mixed) (by decide +kernel))) (a_nil))))
theorem ok_depth (T : Tx K mg) : Ok P w K mg base 2 "depth" ["circle", "other"] sm_depth := by
  refine ok_def (N := ["circle", "other"]) T.d_depth sc_depth (fun _ _ _ _ _ _ us hl => match us, hl with | [_, _], _ => rfl) (fun _ _ _ _ _ _ us hl => match us, hl with | [_, _], _ => rfl) fun f cdv A fs s H E hq hr hgd => ?_
  have nd := sc_depth.nd
  exact ss_one (s_ret (f_sub (f_mul (d_call (ok_bend T) (hr.mono (by decide)) hgd (a_cons (d_var 0) (a_nil))) (d_call (ok_bend T) (hr.mono (by decide)) hgd (a_cons (d_var 1) (a_nil)))) (f_mul (d_call (ok_joint T) (hr.mono (by decide)) hgd (a_cons (d_var 0) (a_cons (d_var 1) (a_nil)))) (d_call (ok_joint T) (hr.mono (by decide)) hgd (a_cons (d_var 0) (a_cons (d_var 1) (a_nil)))))))
theorem ok_check_apart (T : Tx K mg) : Ok P w K mg base 3 "check_apart" ["circle", "other"] sm_check_apart := by
  refine ok_def (N := ["circle", "other"]) T.d_check_apart sc_check_apart (fun _ _ _ _ _ _ us hl => match us, hl with | [_, _], _ => rfl) (fun _ _ _ _ _ _ us hl => match us, hl with | [_, _], _ => rfl) fun f cdv A fs s H E hq hr hgd => ?_
  have nd := sc_check_apart.nd
  exact ss_cons (s_expr (d_call (ok_check_unlike T) (hr.mono (by decide)) hgd (a_cons (d_var 0) (a_cons (d_var 1) (a_nil))))) (ss_one (s_if (t_fge (d_call (ok_depth T) (hr.mono (by decide)) hgd (a_cons (d_var 0) (a_cons (d_var 1) (a_nil)))) (d_int)) (ss_one (s_never)) (ss_nil)))
theorem ok_is_link_of (T : Tx K mg) : Ok P w K mg base 3 "is_link_of" ["circle", "other", "link"] sm_is_link_of := by
  refine ok_def (N := ["circle", "other", "link"]) T.d_is_link_of sc_is_link_of (fun _ _ _ _ _ _ us hl => match us, hl with | [_, _, _], _ => rfl) (fun _ _ _ _ _ _ us hl => match us, hl with | [_, _, _], _ => rfl) fun f cdv A fs s H E hq hr hgd => ?_
  have nd := sc_is_link_of.nd
  exact ss_cons (s_if ((d_wor (t_fne hr (d_call (ok_depth T) (hr.mono (by decide)) hgd (a_cons (d_var 2) (a_cons (d_var 0) (a_nil)))) (d_int)) (d_w1o (t_fne hr (d_call (ok_depth T) (hr.mono (by decide)) hgd (a_cons (d_var 2) (a_cons (d_var 1) (a_nil)))) (d_int)))).pt) (ss_one (s_ret (d_bl))) (ss_nil)) (ss_one (s_ret (d_flt (f_mul (f_mul (d_call (ok_joint T) (hr.mono (by decide)) hgd (a_cons (d_var 2) (a_cons (d_var 0) (a_nil)))) (d_call (ok_joint T) (hr.mono (by decide)) hgd (a_cons (d_var 2) (a_cons (d_var 1) (a_nil))))) (d_call (ok_joint T) (hr.mono (by decide)) hgd (a_cons (d_var 0) (a_cons (d_var 1) (a_nil))))) (d_int))))
theorem ok_check_link (T : Tx K mg) : Ok P w K mg base 4 "check_link" ["circle", "other", "link"] sm_check_link := by
  refine ok_def (N := ["circle", "other", "link"]) T.d_check_link sc_check_link (fun _ _ _ _ _ _ us hl => match us, hl with | [_, _, _], _ => rfl) (fun _ _ _ _ _ _ us hl => match us, hl with | [_, _, _], _ => rfl) fun f cdv A fs s H E hq hr hgd => ?_
  have nd := sc_check_link.nd
  exact ss_one (s_if (d_tnot (d_tst (d_call (ok_is_link_of T) (hr.mono (by decide)) hgd (a_cons (d_var 0) (a_cons (d_var 1) (a_cons (d_var 2) (a_nil))))))) (ss_one (s_never)) (ss_nil))
theorem ok_neighbours_of (T : Tx K mg) : Ok P w K mg base 4 "neighbours_of" ["circle", "other", "link"] sm_neighbours_of := by
  refine ok_def (N := ["circle", "other", "link", "one", "two", "both", "first", "second", "weight", "inner", "outer", "length", "middle", "across", "square", "root", "rows", "way", "row"]) T.d_neighbours_of sc_neighbours_of (fun _ _ _ _ _ _ us hl => match us, hl with | [_, _, _], _ => rfl) (fun _ _ _ _ _ _ us hl => match us, hl with | [_, _, _], _ => rfl) fun f cdv A fs s H E hq hr hgd => ?_
  have nd := sc_neighbours_of.nd
  exact ss_cons (s_par3 3 4 5 rfl nd (a_cons (d_call (ok_bend T) (hr.mono (by decide)) hgd (a_cons (d_var 0) (a_nil))) (a_cons (d_call (ok_bend T) (hr.mono (by decide)) hgd (a_cons (d_var 1) (a_nil))) (a_cons (d_call (ok_joint T) (hr.mono (by decide)) hgd (a_cons (d_var 0) (a_cons (d_var 1) (a_nil)))) (a_nil))))) (ss_cons (s_par 6 7 rfl nd (a_cons (d_call (ok_joint T) (hr.mono (by decide)) hgd (a_cons (d_var 2) (a_cons (d_var 0) (a_nil)))) (a_cons (d_call (ok_joint T) (hr.mono (by decide)) hgd (a_cons (d_var 2) (a_cons (d_var 1) (a_nil)))) (a_nil)))) (ss_cons (s_set 8 nd (f_sub (f_mul (d_var 5) (d_var 5)) (f_mul (d_var 3) (d_var 4)))) (ss_cons (s_set 9 nd (d_call (ok_mixed T) (hr.mono (by decide)) hgd (a_cons (f_sub (f_mul (d_var 7) (d_var 5)) (f_mul (d_var 6) (d_var 4))) (a_cons (d_var 0) (a_cons (f_sub (f_mul (d_var 6) (d_var 5)) (f_mul (d_var 7) (d_var 3))) (a_cons (d_var 1) (a_nil))))))) (ss_cons (s_set 10 nd (d_call (ok_mixed T) (hr.mono (by decide)) hgd (a_cons (d_var 8) (a_cons (d_var 2) (a_cons (d_neg (d_int)) (a_cons (d_var 9) (a_nil))))))) (ss_cons (s_set 11 nd (d_call (ok_bend T) (hr.mono (by decide)) hgd (a_cons (d_var 10) (a_nil)))) (ss_cons (s_set 12 nd (d_call (ok_mixed T) (hr.mono (by decide)) hgd (a_cons (d_var 11) (a_cons (d_var 9) (a_cons (f_sub (f_mul (d_neg (d_int)) (d_call (ok_bend T) (hr.mono (by decide)) hgd (a_cons (d_var 9) (a_nil)))) (d_var 11)) (a_cons (d_var 10) (a_nil))))))) (ss_cons (s_set 13 nd (d_call (ok_row_across T) (hr.mono (by decide)) hgd (a_cons (d_call (ok_weights_for T) (hr.mono (by decide)) hgd (a_cons (d_var 0) (a_nil))) (a_cons (d_call (ok_weights_for T) (hr.mono (by decide)) hgd (a_cons (d_var 1) (a_nil))) (a_cons (d_call (ok_weights_for T) (hr.mono (by decide)) hgd (a_cons (d_var 2) (a_nil))) (a_nil)))))) (ss_cons (s_set 14 nd (f_mul (f_sub (f_mul (f_mul (f_mul (f_mul (d_var 8) (d_var 11)) (d_var 8)) (d_var 11)) (d_call (ok_bend T) (hr.mono (by decide)) hgd (a_cons (d_var 2) (a_nil)))) (d_call (ok_bend T) (hr.mono (by decide)) hgd (a_cons (d_var 12) (a_nil)))) (d_call (ok_bend T) (hr.mono (by decide)) hgd (a_cons (d_var 13) (a_nil))))) (ss_cons (s_set 15 nd (g_isqrt T.b_isqrt (a_cons (g_max2 rfl T.z_max (a_cons (d_int) (a_cons (d_var 14) (a_nil)))) (a_nil)))) (ss_cons (s_if (t_fne hr (f_mul (d_var 15) (d_var 15)) (d_var 14)) (ss_one (s_ret (d_non))) (ss_nil)) (ss_cons (s_setLc 16 [("way", 17)] rfl nd (g_seq (d_tup (a_cons (d_neg (d_int)) (a_cons (d_int) (a_nil))))) (cg_name) (fun _ _ _ _ _ => pg_name (i := 17) nd rfl (by first | exact Or.inl rfl | exact Or.inr rfl)) (fun _ _ _ _ _ => ts_nil) (fun _ _ _ _ _ => d_call (ok_mixed T) (hr.mono (by decide)) hgd (a_cons (d_call (ok_bend T) (hr.mono (by decide)) hgd (a_cons (d_var 13) (a_nil))) (a_cons (d_var 12) (a_cons (f_mul (d_var 17) (d_var 15)) (a_cons (d_var 13) (a_nil)))))) (ok := blkOk_by (N := ["circle", "other", "link", "one", "two", "both", "first", "second", "weight", "inner", "outer", "length", "middle", "across", "square", "root", "rows", "way", "row"]) (sc := defScope st_neighbours_of) (by decide +kernel)) (sw_true rfl rfl rfl (by decide +kernel))) (ss_one (s_ret (g_totup T.z_tuple (a_cons (g_sortT T.z_sorted (a_cons (d_lc [("row", 18)] rfl nd (g_seq (d_var 16)) (cg_name) (fun _ _ _ _ _ => pg_name (i := 18) nd rfl (by first | exact Or.inl rfl | exact Or.inr rfl)) (fun _ _ _ _ _ => ts_nil) (fun _ _ _ _ _ => d_call (ok_first_above T) (hr.mono (by decide)) hgd (a_cons (d_var 18) (a_nil))) (ok := blkOk_by (N := ["circle", "other", "link", "one", "two", "both", "first", "second", "weight", "inner", "outer", "length", "middle", "across", "square", "root", "rows", "way", "row"]) (sc := defScope st_neighbours_of) (by decide +kernel))) (a_nil))) (a_nil))))))))))))))))
theorem ok_chain_count (T : Tx K mg) : Ok P w K mg base 7 "chain_count" ["circle", "other"] sm_chain_count := by
  refine ok_def (N := ["circle", "other"]) T.d_chain_count sc_chain_count (fun _ _ _ _ _ _ us hl => match us, hl with | [_, _], _ => rfl) (fun _ _ _ _ _ _ us hl => match us, hl with | [_, _], _ => rfl) fun f cdv A fs s H E hq hr hgd => ?_
  have nd := sc_chain_count.nd
  exact ss_cons (s_expr (d_call (ok_check_pair T) (hr.mono (by decide)) hgd (a_cons (d_var 0) (a_cons (d_var 1) (a_nil))))) (ss_cons (s_expr (d_call (ok_check_apart T) (hr.mono (by decide)) hgd (a_cons (d_var 0) (a_cons (d_var 1) (a_nil))))) (ss_one (s_ret (d_getT (room66 hr) T.t_COUNTS (d_call (ok_crossing T) (hr.mono (by decide)) hgd (a_cons (d_var 0) (a_cons (d_var 1) (a_nil))))))))
theorem ok_are_neighbours (T : Tx K mg) : Ok P w K mg base 7 "are_neighbours" ["circle", "other", "link", "next_link"] sm_are_neighbours := by
  refine ok_def (N := ["circle", "other", "link", "next_link"]) T.d_are_neighbours sc_are_neighbours (fun _ _ _ _ _ _ us hl => match us, hl with | [_, _, _, _], _ => rfl) (fun _ _ _ _ _ _ us hl => match us, hl with | [_, _, _, _], _ => rfl) fun f cdv A fs s H E hq hr hgd => ?_
  have nd := sc_are_neighbours.nd
  exact ss_cons (s_expr (d_call (ok_check_pair T) (hr.mono (by decide)) hgd (a_cons (d_var 0) (a_cons (d_var 1) (a_nil))))) (ss_cons (s_expr (d_call (ok_check_pair T) (hr.mono (by decide)) hgd (a_cons (d_var 2) (a_cons (d_var 3) (a_nil))))) (ss_cons (s_expr (d_call (ok_check_apart T) (hr.mono (by decide)) hgd (a_cons (d_var 0) (a_cons (d_var 1) (a_nil))))) (ss_cons (s_expr (d_call (ok_check_link T) (hr.mono (by decide)) hgd (a_cons (d_var 0) (a_cons (d_var 1) (a_cons (d_var 2) (a_nil)))))) (ss_cons (s_expr (d_call (ok_check_link T) (hr.mono (by decide)) hgd (a_cons (d_var 0) (a_cons (d_var 1) (a_cons (d_var 3) (a_nil)))))) (ss_one (s_ret (d_andV (d_fne hr (d_var 2) (d_var 3)) (d_v1 (d_feq hr (d_call (ok_depth T) (hr.mono (by decide)) hgd (a_cons (d_var 2) (a_cons (d_var 3) (a_nil)))) (d_int))))))))))
theorem ok_next_links (T : Tx K mg) : Ok P w K mg base 7 "next_links" ["circle", "other", "link"] sm_next_links := by
  refine ok_def (N := ["circle", "other", "link"]) T.d_next_links sc_next_links (fun _ _ _ _ _ _ us hl => match us, hl with | [_, _, _], _ => rfl) (fun _ _ _ _ _ _ us hl => match us, hl with | [_, _, _], _ => rfl) fun f cdv A fs s H E hq hr hgd => ?_
  have nd := sc_next_links.nd
  exact ss_cons (s_expr (d_call (ok_check_pair T) (hr.mono (by decide)) hgd (a_cons (d_var 0) (a_cons (d_var 1) (a_nil))))) (ss_cons (s_expr (d_call (ok_check_round T) (hr.mono (by decide)) hgd (a_cons (d_var 2) (a_nil)))) (ss_cons (s_expr (d_call (ok_check_apart T) (hr.mono (by decide)) hgd (a_cons (d_var 0) (a_cons (d_var 1) (a_nil))))) (ss_cons (s_expr (d_call (ok_check_link T) (hr.mono (by decide)) hgd (a_cons (d_var 0) (a_cons (d_var 1) (a_cons (d_var 2) (a_nil)))))) (ss_one (s_ret (d_call (ok_neighbours_of T) (hr.mono (by decide)) hgd (a_cons (d_var 0) (a_cons (d_var 1) (a_cons (d_var 2) (a_nil))))))))))
theorem ok_links_on (T : Tx K mg) : Ok P w K mg base 7 "links_on" ["circle", "other", "link", "many"] sm_links_on := by
  refine ok_def (N := ["circle", "other", "link", "many", "found", "beside", "each"]) T.d_links_on sc_links_on (fun _ _ _ _ _ _ us hl => match us, hl with | [_, _, _, _], _ => rfl) (fun _ _ _ _ _ _ us hl => match us, hl with | [_, _, _, _], _ => rfl) fun f cdv A fs s H E hq hr hgd => ?_
  have nd := sc_links_on.nd
  exact ss_cons (s_expr (d_call (ok_check_pair T) (hr.mono (by decide)) hgd (a_cons (d_var 0) (a_cons (d_var 1) (a_nil))))) (ss_cons (s_expr (d_call (ok_check_round T) (hr.mono (by decide)) hgd (a_cons (d_var 2) (a_nil)))) (ss_cons (s_if (d_tnot (d_tst (d_call (ok_is_between T) (hr.mono (by decide)) hgd (a_cons (d_var 3) (a_cons (d_int) (a_cons (d_gc T.c_MOST_LINKS) (a_nil))))))) (ss_one (s_never)) (ss_nil)) (ss_cons (s_expr (d_call (ok_check_apart T) (hr.mono (by decide)) hgd (a_cons (d_var 0) (a_cons (d_var 1) (a_nil))))) (ss_cons (s_expr (d_call (ok_check_link T) (hr.mono (by decide)) hgd (a_cons (d_var 0) (a_cons (d_var 1) (a_cons (d_var 2) (a_nil)))))) (ss_cons (s_own 4 nd (a_cons (d_var 2) (a_nil))) (ss_cons (s_while PassesOwn.never (t_view 4 (t_flt (g_len T.z_len (a_cons (d_var 4) (a_nil))) (d_var 3))) (ss_cons (s_set 5 nd (d_view 4 (d_call (ok_neighbours_of T) (hr.mono (by decide)) hgd (a_cons (d_var 0) (a_cons (d_var 1) (a_cons (f_ix (d_var 4) (d_neg (d_int))) (a_nil))))))) (ss_cons (s_if (t_isN (d_var 5)) (ss_one (s_ret (d_non))) (ss_nil)) (ss_one (s_app 4 (d_view 4 (f_ix (d_lc [("each", 6)] rfl nd (g_seq (d_var 5)) (cg_name) (fun _ _ _ _ _ => pg_name (i := 6) nd rfl (by first | exact Or.inl rfl | exact Or.inr rfl)) (fun _ _ _ _ _ => ts_one (t_view 4 ((d_wor (t_flt (g_len T.z_len (a_cons (d_var 4) (a_nil))) (d_int)) (d_w1o (t_fne hr (d_var 6) (f_ix (d_var 4) (d_neg (d_int)))))).pt))) (fun _ _ _ _ _ => d_var 6) (ok := blkOk_by (N := ["circle", "other", "link", "many", "found", "beside", "each"]) (sc := defScope st_links_on) (by decide +kernel))) (d_int)))))))) (ss_one (s_frq 4 (s_ret (g_totup T.z_tuple (a_cons (d_var 4) (a_nil))))))))))))
theorem ok__law_well (T : Tx K mg) : OkO P w K mg base 1 "_law_well" ["_law_script", "_law_spot"] sm__law_well := by
  refine ok_defO (N := ["_law_script", "_law_spot", "_law_mixed", "_law_cell", "_law_own", "_law_rest"]) T.d__law_well sc__law_well (fun _ _ _ _ _ _ us hl => match us, hl with | [_, _], _ => rfl) fun f cdv A fs s H E hq hr hgd => ?_
  have nd := sc__law_well.nd
  exact so_cons (s_set 2 nd (f_add (d_int) (f_mul (d_int) (d_var 1)))) (so_cons (s_forI PassesOwn.never rfl (g_seq (g_slice (d_var 0) p_none (p_some (d_int)))) (g_name 3 nd) (ss_one (s_set 2 nd (f_mod (g_toint T.z_int (a_cons (f_add (f_add (f_mul (d_var 2) (d_int)) (f_mod (g_toint T.z_int (a_cons (d_var 3) (a_nil))) (d_int))) (d_int)) (a_nil))) (d_int))))) (so_cons (s_set 4 nd (d_if (t_flt (d_var 1) (g_len T.z_len (a_cons (d_var 0) (a_nil)))) (g_toint T.z_int (a_cons (f_ix (d_var 0) (d_var 1)) (a_nil))) (d_int))) (so_cons (s_set 5 nd (d_if ((d_wor (t_flt (d_var 4) (d_int)) (d_w1o (t_fge (d_var 4) (f_pow (d_int) (d_int))))).pt) (g_abs T.z_abs (a_cons (d_var 4) (a_nil))) (d_int))) (so_ret (a_cons (d_var 5) (a_cons (f_mod (g_toint T.z_int (a_cons (f_add (f_add (f_mul (d_var 2) (d_int)) (f_mul (f_mod (g_toint T.z_int (a_cons (d_var 4) (a_nil))) (d_int)) (d_int))) (d_int)) (a_nil))) (d_int)) (a_cons (d_int) (a_nil))))))))
theorem ok__law_dip (T : Tx K mg) : Ok P w K mg base 1 "_law_dip" ["_law_well_here", "_law_many"] sm__law_dip := by
  refine ok_def (N := ["_law_well_here", "_law_many", "_law_digit", "_law_step"]) T.d__law_dip sc__law_dip (fun _ _ _ _ _ _ us hl => match us, hl with | [_, _], _ => rfl) (fun _ _ _ _ _ _ us hl => match us, hl with | [_, _], _ => rfl) fun f cdv A fs s H E hq hr hgd => ?_
  have nd := sc__law_dip.nd
  exact ss_cons (s_if (t_fgt (d_tix 0 (d_int)) (d_int)) (ss_cons (s_asg (g_divmod T.z_divmod (a_cons (d_tix 0 (d_int)) (a_cons (d_var 1) (a_nil)))) (g_unp rfl (gs_cons (g_tset 0 (d_int)) (gs_cons (g_name 2 nd) (gs_nil))))) (ss_one (s_ret (d_var 2)))) (ss_nil)) (ss_cons (s_asg (f_add (d_tix 0 (d_int)) (d_int)) (g_tset 0 (d_int))) (ss_cons (s_set 3 nd (f_add (f_mod (g_toint T.z_int (a_cons (d_tix 0 (d_int)) (a_nil))) (d_int)) (d_int))) (ss_cons (s_asg (f_mod (g_toint T.z_int (a_cons (f_add (f_add (f_mul (d_tix 0 (d_int)) (d_var 3)) (f_mul (d_int) (d_tix 0 (d_int)))) (d_int)) (a_nil))) (d_int)) (g_tset 0 (d_int))) (ss_one (s_ret (f_mod (g_toint T.z_int (a_cons (f_div (d_tix 0 (d_int)) (d_int)) (a_nil))) (d_var 1)))))))
theorem ok__law_of (T : Tx K mg) : Ok P w K mg base 2 "_law_of" ["_law_well_here", "_law_some"] sm__law_of := by
  refine ok_def (N := ["_law_well_here", "_law_some"]) T.d__law_of sc__law_of (fun _ _ _ _ _ _ us hl => match us, hl with | [_, _], _ => rfl) (fun _ _ _ _ _ _ us hl => match us, hl with | [_, _], _ => rfl) fun f cdv A fs s H E hq hr hgd => ?_
  have nd := sc__law_of.nd
  exact ss_one (s_ret (f_ix (d_var 1) (d_call (ok__law_dip T) (hr.mono (by decide)) hgd (a_tank 0 (a_cons (g_len T.z_len (a_cons (d_var 1) (a_nil))) (a_nil))))))
theorem ok__law_whole (T : Tx K mg) : Ok P w K mg base 2 "_law_whole" ["_law_well_here", "_law_wide"] sm__law_whole := by
  refine ok_def (N := ["_law_well_here", "_law_wide", "_law_high"]) T.d__law_whole sc__law_whole (fun _ _ _ _ _ _ us hl => match us, hl with | [_, _], _ => rfl) (fun _ _ _ _ _ _ us hl => match us, hl with | [_, _], _ => rfl) fun f cdv A fs s H E hq hr hgd => ?_
  have nd := sc__law_whole.nd
  exact ss_cons (s_if (t_fle (d_var 1) (d_int)) (ss_one (s_ret (f_sub (d_call (ok__law_dip T) (hr.mono (by decide)) hgd (a_tank 0 (a_cons (f_add (f_mul (d_int) (d_var 1)) (d_int)) (a_nil)))) (d_var 1)))) (ss_nil)) (ss_cons (s_set 2 nd (f_sub (d_call (ok__law_dip T) (hr.mono (by decide)) hgd (a_tank 0 (a_cons (f_add (f_mul (d_int) (f_div (d_var 1) (d_int))) (d_int)) (a_nil)))) (f_div (d_var 1) (d_int)))) (ss_one (s_ret (f_add (f_mul (d_int) (d_var 2)) (d_call (ok__law_dip T) (hr.mono (by decide)) hgd (a_tank 0 (a_cons (d_int) (a_nil))))))))
theorem ok__law_rounds (T : Tx K mg) : Ok P w K mg base 1 "_law_rounds" ["_law_script"] sm__law_rounds := by
  refine ok_def (N := ["_law_script"]) T.d__law_rounds sc__law_rounds (fun _ _ _ _ _ _ us hl => match us, hl with | [_], _ => rfl) (fun _ _ _ _ _ _ us hl => match us, hl with | [_], _ => rfl) fun f cdv A fs s H E hq hr hgd => ?_
  have nd := sc__law_rounds.nd
  exact ss_one (s_ret (g_max2 rfl T.z_max (a_cons (d_int) (a_cons (g_min2 rfl T.z_min (a_cons (g_len T.z_len (a_cons (d_var 0) (a_nil))) (a_cons (d_int) (a_nil)))) (a_nil)))))
theorem ok__law_gcd (T : Tx K mg) : Ok P w K mg base 1 "_law_gcd" ["_law_one", "_law_two"] sm__law_gcd := by
  refine ok_def (N := ["_law_one", "_law_two", "_law_left", "_law_right_here"]) T.d__law_gcd sc__law_gcd (fun _ _ _ _ _ _ us hl => match us, hl with | [_, _], _ => rfl) (fun _ _ _ _ _ _ us hl => match us, hl with | [_, _], _ => rfl) fun f cdv A fs s H E hq hr hgd => ?_
  have nd := sc__law_gcd.nd
  exact ss_cons (s_par 2 3 rfl nd (a_cons (g_abs T.z_abs (a_cons (d_var 0) (a_nil))) (a_cons (g_abs T.z_abs (a_cons (d_var 1) (a_nil))) (a_nil)))) (ss_cons (s_while PassesOwn.never (t_fgt (d_var 3) (d_int)) (ss_one (s_par 2 3 rfl nd (a_cons (d_var 3) (a_cons (f_mod (g_toint T.z_int (a_cons (d_var 2) (a_nil))) (d_var 3)) (a_nil)))))) (ss_one (s_ret (d_var 2))))
theorem ok__law_cut (T : Tx K mg) : Ok P w K mg base 2 "_law_cut" ["_law_numbers"] sm__law_cut := by
  refine ok_def (N := ["_law_numbers", "_law_part", "_law_number"]) T.d__law_cut sc__law_cut (fun _ _ _ _ _ _ us hl => match us, hl with | [_], _ => rfl) (fun _ _ _ _ _ _ us hl => match us, hl with | [_], _ => rfl) fun f cdv A fs s H E hq hr hgd => ?_
  have nd := sc__law_cut.nd
  exact ss_cons (s_set 1 nd (d_int)) (ss_cons (s_forI PassesOwn.never rfl (g_seq (d_var 0)) (g_name 2 nd) (ss_one (s_set 1 nd (d_call (ok__law_gcd T) (hr.mono (by decide)) hgd (a_cons (d_var 1) (a_cons (d_var 2) (a_nil))))))) (ss_one (s_ret (g_totup T.z_tuple (a_cons (d_lc [("_law_number", 2)] rfl nd (g_seq (d_var 0)) (cg_name) (fun _ _ _ _ _ => pg_name (i := 2) nd rfl (by first | exact Or.inl rfl | exact Or.inr rfl)) (fun _ _ _ _ _ => ts_nil) (fun _ _ _ _ _ => f_div (d_var 2) (d_var 1)) (ok := blkOk_by (N := ["_law_numbers", "_law_part", "_law_number"]) (sc := defScope st__law_cut) (by decide +kernel))) (a_nil))))))
theorem ok__law_form (T : Tx K mg) : Ok P w K mg base 3 "_law_form" ["_law_row"] sm__law_form := by
  refine ok_def (N := ["_law_row", "_law_first", "_law_number"]) T.d__law_form sc__law_form (fun _ _ _ _ _ _ us hl => match us, hl with | [_], _ => rfl) (fun _ _ _ _ _ _ us hl => match us, hl with | [_], _ => rfl) fun f cdv A fs s H E hq hr hgd => ?_
  have nd := sc__law_form.nd
  exact ss_cons (s_set 0 nd (d_call (ok__law_cut T) (hr.mono (by decide)) hgd (a_cons (d_var 0) (a_nil)))) (ss_cons (s_set 1 nd (f_ix (d_lc [("_law_number", 2)] rfl nd (g_seq (d_var 0)) (cg_name) (fun _ _ _ _ _ => pg_name (i := 2) nd rfl (by first | exact Or.inl rfl | exact Or.inr rfl)) (fun _ _ _ _ _ => ts_one (t_fne hr (d_var 2) (d_int))) (fun _ _ _ _ _ => d_var 2) (ok := blkOk_by (N := ["_law_row", "_law_first", "_law_number"]) (sc := defScope st__law_form) (by decide +kernel))) (d_int))) (ss_one (s_ret (d_if (t_fgt (d_var 1) (d_int)) (d_var 0) (g_totup T.z_tuple (a_cons (d_lc [("_law_number", 2)] rfl nd (g_seq (d_var 0)) (cg_name) (fun _ _ _ _ _ => pg_name (i := 2) nd rfl (by first | exact Or.inl rfl | exact Or.inr rfl)) (fun _ _ _ _ _ => ts_nil) (fun _ _ _ _ _ => f_sub (d_int) (d_var 2)) (ok := blkOk_by (N := ["_law_row", "_law_first", "_law_number"]) (sc := defScope st__law_form) (by decide +kernel))) (a_nil)))))))
theorem ok__law_times (T : Tx K mg) : Ok P w K mg base 1 "_law_times" ["_law_x", "_law_y"] sm__law_times := by
  refine ok_def (N := ["_law_x", "_law_y"]) T.d__law_times sc__law_times (fun _ _ _ _ _ _ us hl => match us, hl with | [_, _], _ => rfl) (fun _ _ _ _ _ _ us hl => match us, hl with | [_, _], _ => rfl) fun f cdv A fs s H E hq hr hgd => ?_
  have nd := sc__law_times.nd
  exact ss_one (s_ret (d_tup (a_cons (f_sub (f_mul (f_ix (d_var 0) (d_int)) (f_ix (d_var 1) (d_int))) (f_mul (f_ix (d_var 0) (d_int)) (f_ix (d_var 1) (d_int)))) (a_cons (f_add (f_mul (f_ix (d_var 0) (d_int)) (f_ix (d_var 1) (d_int))) (f_mul (f_ix (d_var 0) (d_int)) (f_ix (d_var 1) (d_int)))) (a_nil)))))
theorem ok__law_plus (T : Tx K mg) : Ok P w K mg base 1 "_law_plus" ["_law_x", "_law_y"] sm__law_plus := by
  refine ok_def (N := ["_law_x", "_law_y"]) T.d__law_plus sc__law_plus (fun _ _ _ _ _ _ us hl => match us, hl with | [_, _], _ => rfl) (fun _ _ _ _ _ _ us hl => match us, hl with | [_, _], _ => rfl) fun f cdv A fs s H E hq hr hgd => ?_
  have nd := sc__law_plus.nd
  exact ss_one (s_ret (d_tup (a_cons (f_add (f_ix (d_var 0) (d_int)) (f_ix (d_var 1) (d_int))) (a_cons (f_add (f_ix (d_var 0) (d_int)) (f_ix (d_var 1) (d_int))) (a_nil)))))
theorem ok__law_minus (T : Tx K mg) : Ok P w K mg base 1 "_law_minus" ["_law_x"] sm__law_minus := by
  refine ok_def (N := ["_law_x"]) T.d__law_minus sc__law_minus (fun _ _ _ _ _ _ us hl => match us, hl with | [_], _ => rfl) (fun _ _ _ _ _ _ us hl => match us, hl with | [_], _ => rfl) fun f cdv A fs s H E hq hr hgd => ?_
  have nd := sc__law_minus.nd
  exact ss_one (s_ret (d_tup (a_cons (f_sub (d_int) (f_ix (d_var 0) (d_int))) (a_cons (f_sub (d_int) (f_ix (d_var 0) (d_int))) (a_nil)))))
theorem ok__law_conj (T : Tx K mg) : Ok P w K mg base 1 "_law_conj" ["_law_x"] sm__law_conj := by
  refine ok_def (N := ["_law_x"]) T.d__law_conj sc__law_conj (fun _ _ _ _ _ _ us hl => match us, hl with | [_], _ => rfl) (fun _ _ _ _ _ _ us hl => match us, hl with | [_], _ => rfl) fun f cdv A fs s H E hq hr hgd => ?_
  have nd := sc__law_conj.nd
  exact ss_one (s_ret (d_tup (a_cons (f_ix (d_var 0) (d_int)) (a_cons (f_sub (d_int) (f_ix (d_var 0) (d_int))) (a_nil)))))
theorem ok__law_norm (T : Tx K mg) : Ok P w K mg base 1 "_law_norm" ["_law_x"] sm__law_norm := by
  refine ok_def (N := ["_law_x"]) T.d__law_norm sc__law_norm (fun _ _ _ _ _ _ us hl => match us, hl with | [_], _ => rfl) (fun _ _ _ _ _ _ us hl => match us, hl with | [_], _ => rfl) fun f cdv A fs s H E hq hr hgd => ?_
  have nd := sc__law_norm.nd
  exact ss_one (s_ret (f_add (f_mul (f_ix (d_var 0) (d_int)) (f_ix (d_var 0) (d_int))) (f_mul (f_ix (d_var 0) (d_int)) (f_ix (d_var 0) (d_int)))))
theorem ok__law_scaled (T : Tx K mg) : Ok P w K mg base 1 "_law_scaled" ["_law_many", "_law_x"] sm__law_scaled := by
  refine ok_def (N := ["_law_many", "_law_x"]) T.d__law_scaled sc__law_scaled (fun _ _ _ _ _ _ us hl => match us, hl with | [_, _], _ => rfl) (fun _ _ _ _ _ _ us hl => match us, hl with | [_, _], _ => rfl) fun f cdv A fs s H E hq hr hgd => ?_
  have nd := sc__law_scaled.nd
  exact ss_one (s_ret (d_tup (a_cons (f_mul (d_var 0) (f_ix (d_var 1) (d_int))) (a_cons (f_mul (d_var 0) (f_ix (d_var 1) (d_int))) (a_nil)))))
theorem ok__law_over (T : Tx K mg) : Ok P w K mg base 2 "_law_over" ["_law_x", "_law_y"] sm__law_over := by
  refine ok_def (N := ["_law_x", "_law_y", "_law_size", "_law_top"]) T.d__law_over sc__law_over (fun _ _ _ _ _ _ us hl => match us, hl with | [_, _], _ => rfl) (fun _ _ _ _ _ _ us hl => match us, hl with | [_, _], _ => rfl) fun f cdv A fs s H E hq hr hgd => ?_
  have nd := sc__law_over.nd
  exact ss_cons (s_par 2 3 rfl nd (a_cons (d_call (ok__law_norm T) (hr.mono (by decide)) hgd (a_cons (d_var 1) (a_nil))) (a_cons (d_call (ok__law_times T) (hr.mono (by decide)) hgd (a_cons (d_var 0) (a_cons (d_call (ok__law_conj T) (hr.mono (by decide)) hgd (a_cons (d_var 1) (a_nil))) (a_nil)))) (a_nil)))) (ss_one (s_ret (d_tup (a_cons (f_div (f_ix (d_var 3) (d_int)) (d_var 2)) (a_cons (f_div (f_ix (d_var 3) (d_int)) (d_var 2)) (a_nil))))))
theorem ok__law_deep (T : Tx K mg) : Ok P w K mg base 2 "_law_deep" ["_law_x", "_law_y"] sm__law_deep := by
  refine ok_def (N := ["_law_x", "_law_y", "_law_size", "_law_top", "_law_many"]) T.d__law_deep sc__law_deep (fun _ _ _ _ _ _ us hl => match us, hl with | [_, _], _ => rfl) (fun _ _ _ _ _ _ us hl => match us, hl with | [_, _], _ => rfl) fun f cdv A fs s H E hq hr hgd => ?_
  have nd := sc__law_deep.nd
  exact ss_cons (s_while PassesOwn.never (t_fne hr (d_var 1) (d_tup (a_cons (d_int) (a_cons (d_int) (a_nil))))) (ss_cons (s_par 2 3 rfl nd (a_cons (d_call (ok__law_norm T) (hr.mono (by decide)) hgd (a_cons (d_var 1) (a_nil))) (a_cons (d_call (ok__law_times T) (hr.mono (by decide)) hgd (a_cons (d_var 0) (a_cons (d_call (ok__law_conj T) (hr.mono (by decide)) hgd (a_cons (d_var 1) (a_nil))) (a_nil)))) (a_nil)))) (ss_cons (s_set 4 nd (d_tup (a_cons (f_div (f_add (f_mul (d_int) (f_ix (d_var 3) (d_int))) (d_var 2)) (f_mul (d_int) (d_var 2))) (a_cons (f_div (f_add (f_mul (d_int) (f_ix (d_var 3) (d_int))) (d_var 2)) (f_mul (d_int) (d_var 2))) (a_nil))))) (ss_one (s_par 0 1 rfl nd (a_cons (d_var 1) (a_cons (d_call (ok__law_plus T) (hr.mono (by decide)) hgd (a_cons (d_var 0) (a_cons (d_call (ok__law_minus T) (hr.mono (by decide)) hgd (a_cons (d_call (ok__law_times T) (hr.mono (by decide)) hgd (a_cons (d_var 4) (a_cons (d_var 1) (a_nil)))) (a_nil))) (a_nil)))) (a_nil)))))))) (ss_one (s_ret (d_var 0)))
theorem ok__law_quarter (T : Tx K mg) : Ok P w K mg base 1 "_law_quarter" ["_law_x"] sm__law_quarter := by
  refine ok_def (N := ["_law_x", "_law_turn"]) T.d__law_quarter sc__law_quarter (fun _ _ _ _ _ _ us hl => match us, hl with | [_], _ => rfl) (fun _ _ _ _ _ _ us hl => match us, hl with | [_], _ => rfl) fun f cdv A fs s H E hq hr hgd => ?_
  have nd := sc__law_quarter.nd
  exact ss_cons (s_forI PassesOwn.never rfl (i_range1 T.z_range (a_cons (d_int) (a_nil))) (g_name 1 nd) (ss_cons (s_if ((d_wand (t_fgt (f_ix (d_var 0) (d_int)) (d_int)) (d_w1a (t_fge (f_ix (d_var 0) (d_int)) (d_int)))).pt) (ss_one (s_ret (d_var 0))) (ss_nil)) (ss_one (s_set 0 nd (d_tup (a_cons (f_sub (d_int) (f_ix (d_var 0) (d_int))) (a_cons (f_ix (d_var 0) (d_int)) (a_nil)))))))) (ss_one (s_ret (d_var 0)))
theorem ok__law_chart (T : Tx K mg) : Ok P w K mg base 3 "_law_chart" ["_law_hand", "_law_four_here"] sm__law_chart := by
  refine ok_def (N := ["_law_hand", "_law_four_here", "_law_part", "_law_each", "_law_some", "_law_first", "_law_unit", "_law_a", "_law_b", "_law_c", "_law_d"]) T.d__law_chart sc__law_chart (fun _ _ _ _ _ _ us hl => match us, hl with | [_, _], _ => rfl) (fun _ _ _ _ _ _ us hl => match us, hl with | [_, _], _ => rfl) fun f cdv A fs s H E hq hr hgd => ?_
  have nd := sc__law_chart.nd
  exact ss_cons (s_set 2 nd (d_tup (a_cons (d_int) (a_cons (d_int) (a_nil))))) (ss_cons (s_forI PassesOwn.never rfl (g_seq (d_var 1)) (g_name 3 nd) (ss_one (s_set 2 nd (d_call (ok__law_deep T) (hr.mono (by decide)) hgd (a_cons (d_var 2) (a_cons (d_var 3) (a_nil))))))) (ss_cons (s_setLc 4 [("_law_each", 3)] rfl nd (g_seq (d_var 1)) (cg_name) (fun _ _ _ _ _ => pg_name (i := 3) nd rfl (by first | exact Or.inl rfl | exact Or.inr rfl)) (fun _ _ _ _ _ => ts_nil) (fun _ _ _ _ _ => d_call (ok__law_over T) (hr.mono (by decide)) hgd (a_cons (d_var 3) (a_cons (d_var 2) (a_nil)))) (ok := blkOk_by (N := ["_law_hand", "_law_four_here", "_law_part", "_law_each", "_law_some", "_law_first", "_law_unit", "_law_a", "_law_b", "_law_c", "_law_d"]) (sc := defScope st__law_chart) (by decide +kernel)) (sw_true rfl rfl rfl (by decide +kernel))) (ss_cons (s_set 5 nd (f_ix (d_lc [("_law_each", 3)] rfl nd (g_seq (d_var 4)) (cg_name) (fun _ _ _ _ _ => pg_name (i := 3) nd rfl (by first | exact Or.inl rfl | exact Or.inr rfl)) (fun _ _ _ _ _ => ts_one (t_fne hr (d_var 3) (d_tup (a_cons (d_int) (a_cons (d_int) (a_nil)))))) (fun _ _ _ _ _ => d_var 3) (ok := blkOk_by (N := ["_law_hand", "_law_four_here", "_law_part", "_law_each", "_law_some", "_law_first", "_law_unit", "_law_a", "_law_b", "_law_c", "_law_d"]) (sc := defScope st__law_chart) (by decide +kernel))) (d_int))) (ss_cons (s_set 6 nd (d_call (ok__law_over T) (hr.mono (by decide)) hgd (a_cons (d_call (ok__law_quarter T) (hr.mono (by decide)) hgd (a_cons (d_var 5) (a_nil))) (a_cons (d_var 5) (a_nil))))) (ss_cons (s_asg (d_lc [("_law_each", 3)] rfl nd (g_seq (d_var 4)) (cg_name) (fun _ _ _ _ _ => pg_name (i := 3) nd rfl (by first | exact Or.inl rfl | exact Or.inr rfl)) (fun _ _ _ _ _ => ts_nil) (fun _ _ _ _ _ => d_call (ok__law_times T) (hr.mono (by decide)) hgd (a_cons (d_var 6) (a_cons (d_var 3) (a_nil)))) (ok := blkOk_by (N := ["_law_hand", "_law_four_here", "_law_part", "_law_each", "_law_some", "_law_first", "_law_unit", "_law_a", "_law_b", "_law_c", "_law_d"]) (sc := defScope st__law_chart) (by decide +kernel))) (g_unp rfl (gs_cons (g_name 7 nd) (gs_cons (g_name 8 nd) (gs_cons (g_name 9 nd) (gs_cons (g_name 10 nd) (gs_nil))))))) (ss_one (s_ret (d_tup (a_cons (d_var 0) (a_cons (d_var 7) (a_cons (d_var 8) (a_cons (d_var 9) (a_cons (d_var 10) (a_nil))))))))))))))
theorem ok__law_back (T : Tx K mg) : Ok P w K mg base 2 "_law_back" ["_law_chart_here"] sm__law_back := by
  refine ok_def (N := ["_law_chart_here", "_law_hand", "_law_a", "_law_b", "_law_c", "_law_d"]) T.d__law_back sc__law_back (fun _ _ _ _ _ _ us hl => match us, hl with | [_], _ => rfl) (fun _ _ _ _ _ _ us hl => match us, hl with | [_], _ => rfl) fun f cdv A fs s H E hq hr hgd => ?_
  have nd := sc__law_back.nd
  exact ss_cons (s_asg (d_var 0) (g_unp rfl (gs_cons (g_name 1 nd) (gs_cons (g_name 2 nd) (gs_cons (g_name 3 nd) (gs_cons (g_name 4 nd) (gs_cons (g_name 5 nd) (gs_nil)))))))) (ss_cons (s_if (t_feq hr (d_var 1) (d_int)) (ss_one (s_asg (d_tup (a_cons (d_call (ok__law_conj T) (hr.mono (by decide)) hgd (a_cons (d_var 2) (a_nil))) (a_cons (d_call (ok__law_conj T) (hr.mono (by decide)) hgd (a_cons (d_var 3) (a_nil))) (a_cons (d_call (ok__law_conj T) (hr.mono (by decide)) hgd (a_cons (d_var 4) (a_nil))) (a_cons (d_call (ok__law_conj T) (hr.mono (by decide)) hgd (a_cons (d_var 5) (a_nil))) (a_nil)))))) (g_unp rfl (gs_cons (g_name 2 nd) (gs_cons (g_name 3 nd) (gs_cons (g_name 4 nd) (gs_cons (g_name 5 nd) (gs_nil)))))))) (ss_nil)) (ss_one (s_ret (d_tup (a_cons (d_var 1) (a_cons (d_var 5) (a_cons (d_call (ok__law_minus T) (hr.mono (by decide)) hgd (a_cons (d_var 3) (a_nil))) (a_cons (d_call (ok__law_minus T) (hr.mono (by decide)) hgd (a_cons (d_var 4) (a_nil))) (a_cons (d_var 2) (a_nil))))))))))
theorem ok__law_row_back (T : Tx K mg) : Ok P w K mg base 2 "_law_row_back" ["_law_chart_here", "_law_row"] sm__law_row_back := by
  refine ok_def (N := ["_law_chart_here", "_law_row", "_law_hand", "_law_a", "_law_b", "_law_c", "_law_d", "_law_q", "_law_l", "_law_m", "_law_k", "_law_beam", "_law_rest", "_law_first", "_law_last", "_law_x", "_law_y"]) T.d__law_row_back sc__law_row_back (fun _ _ _ _ _ _ us hl => match us, hl with | [_, _], _ => rfl) (fun _ _ _ _ _ _ us hl => match us, hl with | [_, _], _ => rfl) fun f cdv A fs s H E hq hr hgd => ?_
  have nd := sc__law_row_back.nd
  exact ss_cons (s_asg (d_var 0) (g_unp rfl (gs_cons (g_name 2 nd) (gs_cons (g_name 3 nd) (gs_cons (g_name 4 nd) (gs_cons (g_name 5 nd) (gs_cons (g_name 6 nd) (gs_nil)))))))) (ss_cons (s_asg (d_var 1) (g_unp rfl (gs_cons (g_name 7 nd) (gs_cons (g_name 8 nd) (gs_cons (g_name 9 nd) (gs_cons (g_name 10 nd) (gs_nil))))))) (ss_cons (s_par 11 12 rfl nd (a_cons (d_tup (a_cons (d_var 8) (a_cons (d_var 9) (a_nil)))) (a_cons (d_tup (a_cons (d_var 8) (a_cons (f_sub (d_int) (d_var 9)) (a_nil)))) (a_nil)))) (ss_cons (s_set 13 nd (f_add (f_add (f_mul (d_var 7) (d_call (ok__law_norm T) (hr.mono (by decide)) hgd (a_cons (d_var 3) (a_nil)))) (f_ix (d_call (ok__law_times T) (hr.mono (by decide)) hgd (a_cons (d_var 12) (a_cons (d_call (ok__law_times T) (hr.mono (by decide)) hgd (a_cons (d_var 3) (a_cons (d_call (ok__law_conj T) (hr.mono (by decide)) hgd (a_cons (d_var 5) (a_nil))) (a_nil)))) (a_nil)))) (d_int))) (f_mul (d_var 10) (d_call (ok__law_norm T) (hr.mono (by decide)) hgd (a_cons (d_var 5) (a_nil)))))) (ss_cons (s_set 14 nd (f_add (f_add (f_mul (d_var 7) (d_call (ok__law_norm T) (hr.mono (by decide)) hgd (a_cons (d_var 4) (a_nil)))) (f_ix (d_call (ok__law_times T) (hr.mono (by decide)) hgd (a_cons (d_var 12) (a_cons (d_call (ok__law_times T) (hr.mono (by decide)) hgd (a_cons (d_var 4) (a_cons (d_call (ok__law_conj T) (hr.mono (by decide)) hgd (a_cons (d_var 6) (a_nil))) (a_nil)))) (a_nil)))) (d_int))) (f_mul (d_var 10) (d_call (ok__law_norm T) (hr.mono (by decide)) hgd (a_cons (d_var 6) (a_nil)))))) (ss_cons (s_set 15 nd (d_call (ok__law_plus T) (hr.mono (by decide)) hgd (a_cons (d_call (ok__law_scaled T) (hr.mono (by decide)) hgd (a_cons (f_mul (d_int) (d_var 7)) (a_cons (d_call (ok__law_times T) (hr.mono (by decide)) hgd (a_cons (d_var 3) (a_cons (d_call (ok__law_conj T) (hr.mono (by decide)) hgd (a_cons (d_var 4) (a_nil))) (a_nil)))) (a_nil)))) (a_cons (d_call (ok__law_scaled T) (hr.mono (by decide)) hgd (a_cons (f_mul (d_int) (d_var 10)) (a_cons (d_call (ok__law_times T) (hr.mono (by decide)) hgd (a_cons (d_var 5) (a_cons (d_call (ok__law_conj T) (hr.mono (by decide)) hgd (a_cons (d_var 6) (a_nil))) (a_nil)))) (a_nil)))) (a_nil))))) (ss_cons (s_set 16 nd (d_call (ok__law_plus T) (hr.mono (by decide)) hgd (a_cons (d_call (ok__law_times T) (hr.mono (by decide)) hgd (a_cons (d_var 12) (a_cons (d_call (ok__law_times T) (hr.mono (by decide)) hgd (a_cons (d_var 3) (a_cons (d_call (ok__law_conj T) (hr.mono (by decide)) hgd (a_cons (d_var 6) (a_nil))) (a_nil)))) (a_nil)))) (a_cons (d_call (ok__law_times T) (hr.mono (by decide)) hgd (a_cons (d_var 11) (a_cons (d_call (ok__law_times T) (hr.mono (by decide)) hgd (a_cons (d_call (ok__law_conj T) (hr.mono (by decide)) hgd (a_cons (d_var 4) (a_nil))) (a_cons (d_var 5) (a_nil)))) (a_nil)))) (a_nil))))) (ss_one (s_ret (d_tup (a_cons (d_var 13) (a_cons (f_add (f_ix (d_var 15) (d_int)) (f_ix (d_var 16) (d_int))) (a_cons (d_if (t_feq hr (d_var 2) (d_int)) (f_add (f_ix (d_var 15) (d_int)) (f_ix (d_var 16) (d_int))) (f_sub (f_sub (d_int) (f_ix (d_var 15) (d_int))) (f_ix (d_var 16) (d_int)))) (a_cons (d_var 14) (a_nil))))))))))))))
theorem ok__law_led_round (T : Tx K mg) : Ok P w K mg base 4 "_law_led_round" ["_law_chart_here", "_law_row"] sm__law_led_round := by
  refine ok_def (N := ["_law_chart_here", "_law_row"]) T.d__law_led_round sc__law_led_round (fun _ _ _ _ _ _ us hl => match us, hl with | [_, _], _ => rfl) (fun _ _ _ _ _ _ us hl => match us, hl with | [_, _], _ => rfl) fun f cdv A fs s H E hq hr hgd => ?_
  have nd := sc__law_led_round.nd
  exact ss_one (s_ret (d_call (ok__law_form T) (hr.mono (by decide)) hgd (a_cons (d_call (ok__law_row_back T) (hr.mono (by decide)) hgd (a_cons (d_call (ok__law_back T) (hr.mono (by decide)) hgd (a_cons (d_var 0) (a_nil))) (a_cons (d_var 1) (a_nil)))) (a_nil))))
theorem ok__law_four (T : Tx K mg) : Ok P w K mg base 3 "_law_four" ["_law_well_here", "_law_wide"] sm__law_four := by
  refine ok_def (N := ["_law_well_here", "_law_wide", "_law_a", "_law_b", "_law_c", "_law_d", "_law_turn"]) T.d__law_four sc__law_four (fun _ _ _ _ _ _ us hl => match us, hl with | [_, _], _ => rfl) (fun _ _ _ _ _ _ us hl => match us, hl with | [_, _], _ => rfl) fun f cdv A fs s H E hq hr hgd => ?_
  have nd := sc__law_four.nd
  exact ss_cons (s_asg (d_lc [("_law_turn", 6)] rfl nd (i_range1 T.z_range (a_cons (d_int) (a_nil))) (cg_name) (fun _ _ _ _ _ => pg_name (i := 6) nd rfl (by first | exact Or.inl rfl | exact Or.inr rfl)) (fun _ _ _ _ _ => ts_nil) (fun _ _ _ _ _ => d_tup (a_cons (d_call (ok__law_whole T) (hr.mono (by decide)) hgd (a_tank 0 (a_cons (d_var 1) (a_nil)))) (a_cons (d_call (ok__law_whole T) (hr.mono (by decide)) hgd (a_tank 0 (a_cons (d_var 1) (a_nil)))) (a_nil)))) (ok := blkOk_by (N := ["_law_well_here", "_law_wide", "_law_a", "_law_b", "_law_c", "_law_d", "_law_turn"]) (sc := defScope st__law_four) (by decide +kernel))) (g_unp rfl (gs_cons (g_name 2 nd) (gs_cons (g_name 3 nd) (gs_cons (g_name 4 nd) (gs_cons (g_name 5 nd) (gs_nil))))))) (ss_cons (s_if (t_feq hr (d_call (ok__law_times T) (hr.mono (by decide)) hgd (a_cons (d_var 2) (a_cons (d_var 5) (a_nil)))) (d_call (ok__law_times T) (hr.mono (by decide)) hgd (a_cons (d_var 3) (a_cons (d_var 4) (a_nil))))) (ss_one (s_if (t_feq hr (d_var 2) (d_tup (a_cons (d_int) (a_cons (d_int) (a_nil))))) (ss_one (s_asg (d_tup (a_cons (d_tup (a_cons (d_int) (a_cons (d_int) (a_nil)))) (a_cons (d_tup (a_cons (d_int) (a_cons (d_int) (a_nil)))) (a_cons (d_tup (a_cons (d_int) (a_cons (d_int) (a_nil)))) (a_nil))))) (g_unp rfl (gs_cons (g_name 2 nd) (gs_cons (g_name 4 nd) (gs_cons (g_name 5 nd) (gs_nil))))))) (ss_one (s_set 5 nd (d_tup (a_cons (f_add (f_ix (d_var 5) (d_int)) (d_int)) (a_cons (f_ix (d_var 5) (d_int)) (a_nil)))))))) (ss_nil)) (ss_one (s_ret (d_lst (a_cons (d_var 2) (a_cons (d_var 3) (a_cons (d_var 4) (a_cons (d_var 5) (a_nil)))))))))
theorem ok__law_map (T : Tx K mg) : Ok P w K mg base 4 "_law_map" ["_law_well_here", "_law_wide"] sm__law_map := by
  refine ok_def (N := ["_law_well_here", "_law_wide", "_law_hand"]) T.d__law_map sc__law_map (fun _ _ _ _ _ _ us hl => match us, hl with | [_, _], _ => rfl) (fun _ _ _ _ _ _ us hl => match us, hl with | [_, _], _ => rfl) fun f cdv A fs s H E hq hr hgd => ?_
  have nd := sc__law_map.nd
  exact ss_cons (s_set 2 nd (d_call (ok__law_dip T) (hr.mono (by decide)) hgd (a_tank 0 (a_cons (d_int) (a_nil))))) (ss_one (s_ret (d_call (ok__law_chart T) (hr.mono (by decide)) hgd (a_cons (d_var 2) (a_cons (d_call (ok__law_four T) (hr.mono (by decide)) hgd (a_tank 0 (a_cons (d_var 1) (a_nil)))) (a_nil))))))
theorem ok__law_pair_of (T : Tx K mg) : Ok P w K mg base 3 "_law_pair_of" ["_law_world"] sm__law_pair_of := by
  refine ok_def (N := ["_law_world", "_law_n", "_law_m", "_law_a", "_law_b"]) T.d__law_pair_of sc__law_pair_of (fun _ _ _ _ _ _ us hl => match us, hl with | [_], _ => rfl) (fun _ _ _ _ _ _ us hl => match us, hl with | [_], _ => rfl) fun f cdv A fs s H E hq hr hgd => ?_
  have nd := sc__law_pair_of.nd
  exact ss_cons (s_asg (d_var 0) (g_unp rfl (gs_cons (g_name 1 nd) (gs_cons (g_name 2 nd) (gs_cons (g_name 3 nd) (gs_cons (g_name 4 nd) (gs_nil))))))) (ss_one (s_ret (d_lst (a_cons (d_tup (a_cons (d_int) (a_cons (d_int) (a_cons (d_int) (a_cons (d_int) (a_nil)))))) (a_cons (d_call (ok__law_cut T) (hr.mono (by decide)) hgd (a_cons (d_tup (a_cons (f_mul (d_var 2) (d_var 2)) (a_cons (d_int) (a_cons (f_sub (d_int) (f_mul (f_mul (d_int) (d_var 1)) (d_var 2))) (a_cons (f_sub (f_mul (d_var 1) (d_var 1)) (f_mul (d_var 2) (d_var 2))) (a_nil)))))) (a_nil))) (a_nil))))))
theorem ok__law_link (T : Tx K mg) : Ok P w K mg base 4 "_law_link" ["_law_world", "_law_at"] sm__law_link := by
  refine ok_def (N := ["_law_world", "_law_at", "_law_n", "_law_m", "_law_a", "_law_b", "_law_i", "_law_j", "_law_first", "_law_third"]) T.d__law_link sc__law_link (fun _ _ _ _ _ _ us hl => match us, hl with | [_, _], _ => rfl) (fun _ _ _ _ _ _ us hl => match us, hl with | [_, _], _ => rfl) fun f cdv A fs s H E hq hr hgd => ?_
  have nd := sc__law_link.nd
  exact ss_cons (s_asg (d_var 0) (g_unp rfl (gs_cons (g_name 2 nd) (gs_cons (g_name 3 nd) (gs_cons (g_name 4 nd) (gs_cons (g_name 5 nd) (gs_nil))))))) (ss_cons (s_asg (d_var 1) (g_unp rfl (gs_cons (g_name 6 nd) (gs_cons (g_name 7 nd) (gs_nil))))) (ss_cons (s_par 8 9 rfl nd (a_cons (f_mul (f_add (d_var 2) (d_var 3)) (d_var 3)) (a_cons (f_add (f_mul (f_mul (f_mul (d_var 6) (d_var 6)) (d_var 3)) (d_var 3)) (f_mul (f_mul (d_var 7) (d_var 7)) (f_sub (f_mul (d_var 2) (d_var 2)) (f_mul (d_var 3) (d_var 3))))) (a_nil)))) (ss_one (s_ret (d_call (ok__law_form T) (hr.mono (by decide)) hgd (a_cons (d_tup (a_cons (f_mul (f_mul (d_var 8) (d_var 7)) (d_var 7)) (a_cons (f_sub (d_int) (f_mul (f_mul (f_mul (d_int) (d_var 6)) (d_var 7)) (d_var 8))) (a_cons (f_sub (d_int) (d_var 9)) (a_cons (f_mul (f_mul (d_var 8) (d_var 6)) (d_var 6)) (a_nil)))))) (a_nil)))))))
theorem ok__law_next (T : Tx K mg) : Ok P w K mg base 3 "_law_next" ["_law_world", "_law_at", "_law_sign"] sm__law_next := by
  refine ok_def (N := ["_law_world", "_law_at", "_law_sign", "_law_n", "_law_m", "_law_a", "_law_b", "_law_i", "_law_j", "_law_top", "_law_deep_here"]) T.d__law_next sc__law_next (fun _ _ _ _ _ _ us hl => match us, hl with | [_, _, _], _ => rfl) (fun _ _ _ _ _ _ us hl => match us, hl with | [_, _, _], _ => rfl) fun f cdv A fs s H E hq hr hgd => ?_
  have nd := sc__law_next.nd
  exact ss_cons (s_asg (d_var 0) (g_unp rfl (gs_cons (g_name 3 nd) (gs_cons (g_name 4 nd) (gs_cons (g_name 5 nd) (gs_cons (g_name 6 nd) (gs_nil))))))) (ss_cons (s_asg (d_var 1) (g_unp rfl (gs_cons (g_name 7 nd) (gs_cons (g_name 8 nd) (gs_nil))))) (ss_cons (s_par 9 10 rfl nd (a_cons (f_mul (d_var 5) (f_sub (f_mul (d_var 5) (d_var 5)) (f_mul (f_mul (d_int) (d_var 6)) (d_var 6)))) (a_cons (f_mul (f_mul (f_mul (d_int) (d_var 6)) (d_var 6)) (d_var 6)) (a_nil)))) (ss_one (s_ret (d_call (ok__law_cut T) (hr.mono (by decide)) hgd (a_cons (d_tup (a_cons (f_mul (d_var 5) (f_add (f_mul (d_var 7) (d_var 10)) (f_mul (f_mul (d_var 2) (d_var 8)) (d_var 9)))) (a_cons (f_mul (d_var 10) (f_sub (f_mul (d_var 5) (d_var 8)) (f_mul (f_mul (d_var 2) (d_var 6)) (d_var 7)))) (a_nil)))) (a_nil)))))))
theorem ok__law_start (T : Tx K mg) : Ok P w K mg base 3 "_law_start" ["_law_well_here"] sm__law_start := by
  refine ok_def (N := ["_law_well_here"]) T.d__law_start sc__law_start (fun _ _ _ _ _ _ us hl => match us, hl with | [_], _ => rfl) (fun _ _ _ _ _ _ us hl => match us, hl with | [_], _ => rfl) fun f cdv A fs s H E hq hr hgd => ?_
  have nd := sc__law_start.nd
  exact ss_cons (s_if (t_feq hr (d_call (ok__law_dip T) (hr.mono (by decide)) hgd (a_tank 0 (a_cons (d_int) (a_nil)))) (d_int)) (ss_one (s_ret (d_tup (a_cons (d_int) (a_cons (d_int) (a_nil)))))) (ss_nil)) (ss_one (s_ret (d_call (ok__law_cut T) (hr.mono (by decide)) hgd (a_cons (d_tup (a_cons (d_call (ok__law_whole T) (hr.mono (by decide)) hgd (a_tank 0 (a_cons (d_call (ok__law_of T) (hr.mono (by decide)) hgd (a_tank 0 (a_cons (d_tup (a_cons (d_int) (a_cons (d_int) (a_cons (d_int) (a_cons (d_int) (a_nil)))))) (a_nil)))) (a_nil)))) (a_cons (f_add (d_int) (d_call (ok__law_dip T) (hr.mono (by decide)) hgd (a_tank 0 (a_cons (d_int) (a_nil))))) (a_nil)))) (a_nil)))))
theorem ok__law_endless (T : Tx K mg) : Ok P w K mg base 3 "_law_endless" ["_law_well_here"] sm__law_endless := by
  refine ok_def (N := ["_law_well_here", "_law_b", "_law_a", "_law_n", "_law_m"]) T.d__law_endless sc__law_endless (fun _ _ _ _ _ _ us hl => match us, hl with | [_], _ => rfl) (fun _ _ _ _ _ _ us hl => match us, hl with | [_], _ => rfl) fun f cdv A fs s H E hq hr hgd => ?_
  have nd := sc__law_endless.nd
  exact ss_cons (s_set 1 nd (f_add (d_int) (d_call (ok__law_dip T) (hr.mono (by decide)) hgd (a_tank 0 (a_cons (d_int) (a_nil)))))) (ss_cons (s_set 2 nd (f_add (f_add (f_mul (d_int) (d_var 1)) (d_int)) (d_call (ok__law_dip T) (hr.mono (by decide)) hgd (a_tank 0 (a_cons (d_int) (a_nil)))))) (ss_cons (s_asg (d_if (t_fne hr (d_var 2) (f_mul (d_int) (d_var 1))) (d_call (ok__law_cut T) (hr.mono (by decide)) hgd (a_cons (d_tup (a_cons (d_var 2) (a_cons (d_var 1) (a_nil)))) (a_nil))) (d_tup (a_cons (d_int) (a_cons (d_int) (a_nil))))) (g_unp rfl (gs_cons (g_name 2 nd) (gs_cons (g_name 1 nd) (gs_nil))))) (ss_cons (s_asg (d_call (ok__law_cut T) (hr.mono (by decide)) hgd (a_cons (d_tup (a_cons (f_sub (f_mul (d_var 2) (d_var 2)) (f_mul (f_mul (d_int) (d_var 1)) (d_var 1))) (a_cons (f_mul (f_mul (d_int) (d_var 1)) (d_var 1)) (a_nil)))) (a_nil))) (g_unp rfl (gs_cons (g_name 3 nd) (gs_cons (g_name 4 nd) (gs_nil))))) (ss_one (s_ret (d_lst (a_cons (d_var 3) (a_cons (d_var 4) (a_cons (d_var 2) (a_cons (d_var 1) (a_nil)))))))))))
theorem ok__law_chain (T : Tx K mg) : Ok P w K mg base 5 "_law_chain" ["_law_world", "_law_chart_here", "_law_at", "_law_many"] sm__law_chain := by
  refine ok_def (N := ["_law_world", "_law_chart_here", "_law_at", "_law_many", "_law_first", "_law_sign", "_law_found", "_law_turn"]) T.d__law_chain sc__law_chain (fun _ _ _ _ _ _ us hl => match us, hl with | [_, _, _, _], _ => rfl) (fun _ _ _ _ _ _ us hl => match us, hl with | [_, _, _, _], _ => rfl) fun f cdv A fs s H E hq hr hgd => ?_
  have nd := sc__law_chain.nd
  exact ss_cons (s_setLc 4 [("_law_sign", 5)] rfl nd (g_seq (d_tup (a_cons (d_int) (a_cons (d_neg (d_int)) (a_nil))))) (cg_name) (fun _ _ _ _ _ => pg_name (i := 5) nd rfl (by first | exact Or.inl rfl | exact Or.inr rfl)) (fun _ _ _ _ _ => ts_nil) (fun _ _ _ _ _ => d_call (ok__law_led_round T) (hr.mono (by decide)) hgd (a_cons (d_var 1) (a_cons (d_call (ok__law_link T) (hr.mono (by decide)) hgd (a_cons (d_var 0) (a_cons (d_call (ok__law_next T) (hr.mono (by decide)) hgd (a_cons (d_var 0) (a_cons (d_var 2) (a_cons (d_var 5) (a_nil))))) (a_nil)))) (a_nil)))) (ok := blkOk_by (N := ["_law_world", "_law_chart_here", "_law_at", "_law_many", "_law_first", "_law_sign", "_law_found", "_law_turn"]) (sc := defScope st__law_chain) (by decide +kernel)) (sw_true rfl rfl rfl (by decide +kernel))) (ss_cons (s_parO 5 6 rfl nd (d_if (t_fltU (lt_units (room66 hr)) (f_ix (d_var 4) (d_int)) (f_ix (d_var 4) (d_int))) (d_int) (d_neg (d_int))) (a_nil)) (ss_cons (s_forI PassesOwn.never rfl (i_range1 T.z_range (a_cons (d_var 3) (a_nil))) (g_name 7 nd) (ss_cons (s_app 6 (d_call (ok__law_led_round T) (hr.mono (by decide)) hgd (a_cons (d_var 1) (a_cons (d_call (ok__law_link T) (hr.mono (by decide)) hgd (a_cons (d_var 0) (a_cons (d_var 2) (a_nil)))) (a_nil))))) (ss_one (s_set 2 nd (d_call (ok__law_next T) (hr.mono (by decide)) hgd (a_cons (d_var 0) (a_cons (d_var 2) (a_cons (d_var 5) (a_nil))))))))) (ss_one (s_frq 6 (s_ret (g_totup T.z_tuple (a_cons (d_var 6) (a_nil))))))))
theorem ok__law_right (T : Tx K mg) : Ok P w K mg base 8 "_law_right" ["_law_well_here"] sm__law_right := by
  refine ok_def (N := ["_law_well_here", "_law_world", "_law_chart_here", "_law_one", "_law_two", "_law_row", "_law_at", "_law_many", "_law_due", "_law_told", "_law_k", "_law_back_here"]) T.d__law_right sc__law_right (fun _ _ _ _ _ _ us hl => match us, hl with | [_], _ => rfl) (fun _ _ _ _ _ _ us hl => match us, hl with | [_], _ => rfl) fun f cdv A fs s H E hq hr hgd => ?_
  have nd := sc__law_right.nd
  exact ss_cons (s_asg (d_tup (a_cons (d_call (ok__law_endless T) (hr.mono (by decide)) hgd (a_tank 0 (a_nil))) (a_cons (d_call (ok__law_map T) (hr.mono (by decide)) hgd (a_tank 0 (a_cons (d_call (ok__law_of T) (hr.mono (by decide)) hgd (a_tank 0 (a_cons (d_tup (a_cons (d_int) (a_cons (d_int) (a_cons (d_int) (a_cons (d_int) (a_cons (d_int) (a_nil))))))) (a_nil)))) (a_nil)))) (a_nil)))) (g_unp rfl (gs_cons (g_name 1 nd) (gs_cons (g_name 2 nd) (gs_nil))))) (ss_cons (s_asg (d_lc [("_law_row", 5)] rfl nd (g_seq (d_call (ok__law_pair_of T) (hr.mono (by decide)) hgd (a_cons (d_var 1) (a_nil)))) (cg_name) (fun _ _ _ _ _ => pg_name (i := 5) nd rfl (by first | exact Or.inl rfl | exact Or.inr rfl)) (fun _ _ _ _ _ => ts_nil) (fun _ _ _ _ _ => d_call (ok__law_led_round T) (hr.mono (by decide)) hgd (a_cons (d_var 2) (a_cons (d_var 5) (a_nil)))) (ok := blkOk_by (N := ["_law_well_here", "_law_world", "_law_chart_here", "_law_one", "_law_two", "_law_row", "_law_at", "_law_many", "_law_due", "_law_told", "_law_k", "_law_back_here"]) (sc := defScope st__law_right) (by decide +kernel))) (g_unp rfl (gs_cons (g_name 3 nd) (gs_cons (g_name 4 nd) (gs_nil))))) (ss_cons (s_if (t_feq hr (d_call (ok__law_dip T) (hr.mono (by decide)) hgd (a_tank 0 (a_cons (d_int) (a_nil)))) (d_int)) (ss_one (s_par 3 4 rfl nd (a_cons (d_var 4) (a_cons (d_var 3) (a_nil))))) (ss_nil)) (ss_cons (s_par 6 7 rfl nd (a_cons (d_call (ok__law_start T) (hr.mono (by decide)) hgd (a_tank 0 (a_nil))) (a_cons (f_add (d_int) (d_call (ok__law_dip T) (hr.mono (by decide)) hgd (a_tank 0 (a_cons (d_int) (a_nil))))) (a_nil)))) (ss_cons (s_set 8 nd (d_call (ok__law_chain T) (hr.mono (by decide)) hgd (a_cons (d_var 1) (a_cons (d_var 2) (a_cons (d_var 6) (a_cons (d_var 7) (a_nil))))))) (ss_cons (s_if ((d_wor (t_notN (d_call (ok_chain_count T) (hr.mono (by decide)) hgd (a_cons (d_var 3) (a_cons (d_var 4) (a_nil))))) (d_w1o (t_fne hr (d_lenSet rfl (room66 hr) T.z_len T.z_set (d_var 8)) (d_var 7)))).pt) (ss_one (s_ret (d_bl))) (ss_nil)) (ss_cons (s_set 9 nd (d_lst (a_cons (d_call (ok_links_on T) (hr.mono (by decide)) hgd (a_cons (d_var 3) (a_cons (d_var 4) (a_cons (f_ix (d_var 8) (d_int)) (a_cons (d_var 7) (a_nil)))))) (a_cons (d_callKP (ks := ["many", "link", "other", "circle"]) T.d_links_on (ok_links_on T) (hr.mono (by decide)) hgd (fun _ _ _ _ _ _ us hl => match us, hl with | [_, _, _, _], _ => rfl) (k_cons (d_int) (k_cons (f_ix (d_var 8) (d_int)) (k_cons (d_var 3) (k_cons (d_var 4) (k_nil)))))) (a_cons (d_call (ok_links_on T) (hr.mono (by decide)) hgd (a_cons (d_var 3) (a_cons (d_var 4) (a_cons (f_ix (d_var 8) (d_int)) (a_cons (d_int) (a_nil)))))) (a_nil)))))) (ss_cons (s_if (t_fne hr (g_repr hgd (room66 hr) T.z_repr (a_cons (d_var 9) (a_nil))) (g_repr hgd (room66 hr) T.z_repr (a_cons (d_lst (a_cons (d_var 8) (a_cons (g_slice (d_var 8) p_none (p_some (d_int))) (a_cons (g_slice (d_var 8) p_none (p_some (d_int))) (a_nil))))) (a_nil)))) (ss_one (s_ret (d_bl))) (ss_nil)) (ss_cons (s_forI PassesOwn.never rfl (i_range2 T.z_range (a_cons (d_int) (a_cons (d_var 7) (a_nil)))) (g_name 10 nd) (ss_one (s_if (t_fisn (by rfl) (d_call (ok_are_neighbours T) (hr.mono (by decide)) hgd (a_cons (d_var 3) (a_cons (d_var 4) (a_cons (f_ix (d_var 8) (f_sub (d_var 10) (d_int))) (a_cons (f_ix (d_var 8) (d_var 10)) (a_nil)))))) (d_bl)) (ss_one (s_ret (d_bl))) (ss_nil)))) (ss_cons (s_set 10 nd (f_add (d_int) (d_call (ok__law_dip T) (hr.mono (by decide)) hgd (a_tank 0 (a_cons (f_sub (d_var 7) (d_int)) (a_nil)))))) (ss_cons (s_if (t_fne hr (g_repr hgd (room66 hr) T.z_repr (a_cons (d_call (ok_next_links T) (hr.mono (by decide)) hgd (a_cons (d_var 3) (a_cons (d_var 4) (a_cons (f_ix (d_var 8) (d_var 10)) (a_nil))))) (a_nil))) (g_repr hgd (room66 hr) T.z_repr (a_cons (g_totup T.z_tuple (a_cons (g_sortT T.z_sorted (a_cons (d_lst (a_cons (f_ix (d_var 8) (f_sub (d_var 10) (d_int))) (a_cons (f_ix (d_var 8) (f_add (d_var 10) (d_int))) (a_nil)))) (a_nil))) (a_nil))) (a_nil)))) (ss_one (s_ret (d_bl))) (ss_nil)) (ss_cons (s_set 11 nd (d_call (ok_links_on T) (hr.mono (by decide)) hgd (a_cons (d_var 3) (a_cons (d_var 4) (a_cons (f_ix (d_var 8) (d_var 10)) (a_cons (d_int) (a_nil))))))) (ss_one (s_ret (d_andV (d_fis (by rfl) (d_call (ok_are_neighbours T) (hr.mono (by decide)) hgd (a_cons (d_var 3) (a_cons (d_var 4) (a_cons (f_ix (d_var 8) (d_int)) (a_cons (f_ix (d_var 8) (d_int)) (a_nil)))))) (d_bl)) (d_v1 (d_feq hr (g_repr hgd (room66 hr) T.z_repr (a_cons (d_var 11) (a_nil))) (g_repr hgd (room66 hr) T.z_repr (a_cons (d_tup (a_cons (f_ix (d_var 8) (d_var 10)) (a_cons (g_min2T rfl (room66 hr) T.z_min (a_cons (f_ix (d_var 8) (f_sub (d_var 10) (d_int))) (a_cons (f_ix (d_var 8) (f_add (d_var 10) (d_int))) (a_nil)))) (a_nil)))) (a_nil)))))))))))))))))))
theorem ok_law (T : Tx K mg) : Ok P w K mg base 9 "law" ["_law_script"] sm_law := by
  refine ok_def (N := ["_law_script", "_law_spot"]) T.d_law sc_law (fun _ _ _ _ _ _ us hl => match us, hl with | [_], _ => rfl) (fun _ _ _ _ _ _ us hl => match us, hl with | [_], _ => rfl) fun f cdv A fs s H E hq hr hgd => ?_
  have nd := sc_law.nd
  exact ss_cons (s_forI PassesOwn.never rfl (i_range1 T.z_range (a_cons (d_call (ok__law_rounds T) (hr.mono (by decide)) hgd (a_cons (d_var 0) (a_nil))) (a_nil))) (g_name 1 nd) (ss_one (s_if (d_tnot (d_tst (d_callT (ok__law_right T) (ok__law_well T) (hr.mono (by decide)) (hr.mono (by decide)) hgd (a_cons (d_var 0) (a_cons (d_var 1) (a_nil))) rfl))) (ss_one (s_ret (d_bl))) (ss_nil)))) (ss_one (s_ret (d_bl)))
end
theorem hd_tx {K : PySem.W.Frag} {mg : Str → Option Value} {h : Heap} (X : K.In h) (G : h.Ns mainGlobals mg) (c : hd.Says K) : Tx K mg := {
  d_is_whole := c.df X G 0
  d_is_between := c.df X G 1
  d_are_wholes := c.df X G 2
  d_divisor_of := c.df X G 3
  d_lowest := c.df X G 4
  d_is_lowest := c.df X G 5
  d_is_led_up := c.df X G 6
  d_first_above := c.df X G 7
  d_fraction := c.df X G 8
  d_bend := c.df X G 9
  d_is_row := c.df X G 10
  d_is_round := c.df X G 11
  d_check_round := c.df X G 12
  d_joint := c.df X G 13
  d_minor := c.df X G 14
  d_determinant_of := c.df X G 15
  d_row_across := c.df X G 16
  d_crossing := c.df X G 17
  d_check_pair := c.df X G 18
  d_check_unlike := c.df X G 19
  d_weights_for := c.df X G 20
  d_mixed := c.df X G 21
  d_depth := c.df X G 22
  d_check_apart := c.df X G 23
  d_is_link_of := c.df X G 24
  d_check_link := c.df X G 25
  d_neighbours_of := c.df X G 26
  d_chain_count := c.df X G 27
  d_are_neighbours := c.df X G 28
  d_next_links := c.df X G 29
  d_links_on := c.df X G 30
  d__law_well := c.df X G 31
  d__law_dip := c.df X G 32
  d__law_of := c.df X G 33
  d__law_whole := c.df X G 34
  d__law_rounds := c.df X G 35
  d__law_gcd := c.df X G 36
  d__law_cut := c.df X G 37
  d__law_form := c.df X G 38
  d__law_times := c.df X G 39
  d__law_plus := c.df X G 40
  d__law_minus := c.df X G 41
  d__law_conj := c.df X G 42
  d__law_norm := c.df X G 43
  d__law_scaled := c.df X G 44
  d__law_over := c.df X G 45
  d__law_deep := c.df X G 46
  d__law_quarter := c.df X G 47
  d__law_chart := c.df X G 48
  d__law_back := c.df X G 49
  d__law_row_back := c.df X G 50
  d__law_led_round := c.df X G 51
  d__law_four := c.df X G 52
  d__law_map := c.df X G 53
  d__law_pair_of := c.df X G 54
  d__law_link := c.df X G 55
  d__law_next := c.df X G 56
  d__law_start := c.df X G 57
  d__law_endless := c.df X G 58
  d__law_chain := c.df X G 59
  d__law_right := c.df X G 60
  d_law := c.df X G 61
  z_abs := c.fr X G 0
  z_all := c.fr X G 1
  z_bool := c.fr X G 2
  z_divmod := c.fr X G 3
  z_int := c.fr X G 4
  z_isinstance := c.fr X G 5
  z_len := c.fr X G 6
  z_max := c.fr X G 7
  z_min := c.fr X G 8
  z_range := c.fr X G 9
  z_repr := c.fr X G 10
  z_set := c.fr X G 11
  z_sorted := c.fr X G 12
  z_tuple := c.fr X G 13
  z_zip := c.fr X G 14
  b_gcd := c.bf X G 0
  b_isqrt := c.bf X G 1
  c_MOST_LINKS := c.gc X G 0
  t_COUNTS := c.gt X G 0
  }
private theorem forL_c {g : dG} {f : dS} {k : dEnds} {d : D} {r : List D} {ρ : En} {T : Tk} : forL g f k (d :: r) ρ T = g d ρ T fun ρ1 T1 => f { nx := forL g f k r, rt := k.rt, bk := k.nx, ct := forL g f k r } ρ1 T1 := rfl
private theorem forL_n {g : dG} {f : dS} {k : dEnds} {ρ : En} {T : Tk} : forL g f k [] ρ T = k.nx ρ T := rfl
private theorem repD_succ {xs : List D} {n : Nat} : repD xs (n + 1) = xs ++ repD xs n := by unfold repD; rw [List.replicate_succ, List.flatten_cons]
private theorem repD_zero {xs : List D} : repD xs 0 = [] := rfl
local macro_rules | `(tactic| walk_at "ev") => `(tactic| try simp (maxSteps := 2000000) only [dVar, dC, dOp, dNeg, dIsN, dNotN, dTst, dAnd, dOr, dNot, dAndV, dOrV, dNotV, dIf, aNil, aCons, aTank, aStar, dTup, dLst, vals?, oF, oG, fAdd_int, fAdd_lst, fAdd_tup, fAdd_str, fSub_int, fSub_bl, fMul_int, fMul_lst, fDiv_int, fMod_int, fPow_int, fShl_int, fLt_int, fLe_int, fGt_int, fGe_int, fEq_int, fEq_str, fEq_bl, fEq_tup, fEq_lst, fEq_tn, fEq_nt, fEq_nn,
  fNe_int, fNe_str, fNe_bl, fNe_tup, fNe_lst, fNe_tn, fNe_nt, fNe_nn, fIn_lst, fNotIn_lst, fInS_lst, fInS_tup, fNotInS_lst, fNotInS_tup, gTL, iZA, zip2_lst, zip2_tup, zipD_nil, zipD_cons, enD, iEn, sOwnC, sParC, sPar3C, gOs, sFrq, dView, dViewT, noL_int, noL_bl, noL_str, noL_non, noL_tup, noLL_nil, noLL_cons, fIx_tup, fIx_lst, fIx_scr, ixR_some, it_tup, it_lst, cutq_lst, cutq_scr, cutq_tup, dSlQ, pSome, sSeq, sRet, sExpr, sIf, sAsg, gN, gsNil, gsCons, gT, sPar, sPar3, sParO, sForI, iQ, iR1, iR2, iR3, iZ, dCall, dCallT, dBlt, fLen_tup, fLen_lst, fLen_scr, fI1_int, fI2_int, fInt_int, fInt_bl, fSqrt_isq, fDivmod_int, fAll_lst, fAny_lst, fSum_lst, blR_some, nuR_some, fTuple_lst, fTuple_tup, fList_lst, fList_tup, fList_scr, fRepr_int, fRepr_tup, fRepr_lst, dIsi, isTy, sOwn, sFrz, sApp,
  dTix, gTs, isTank, dLc, cN, cT, setAll, dYes, wipeD, no0, isNon_non, isNon_int, isNon_bl, isNon_str, isNon_tup, isNon_lst, eqD_int, eqD_str, eqD_bl, eqD_nn, eqD_ni, eqD_in, eqD_nt, eqD_tn, eqD_tup, eqD_lst, eqDL_nil, eqDL_nc, eqDL_cn, eqDL_cons, Bool.and_eq_true, List.any_cons, List.any_nil, ifT, ifF, ifA, ifO, List.length_cons, List.length_nil, List.cons_append, List.nil_append, List.getElem?_cons_zero, List.getElem?_cons_succ, List.set_cons_zero, List.set_cons_succ, Option.map_some, Nat.reduceAdd, Nat.reduceSub, atI_lit, ixN_lit, atI_m1, Nat.reduceLT, reduceIte, Nat.reduceLeDiff, true_and,
  and_true, List.append_nil, List.map_cons, List.map_nil, decide_eq_true_eq, Bool.not_eq_true', decide_eq_false_iff_not, Int.cast_ofNat_Int, Int.reduceLT, Int.reduceLE, decide_true, decide_false, Bool.false_eq_true, Bool.not_true, Bool.not_false, lcD, forL_c, forL_n, cut_none, cut_to, cut_from, cut_fromto, List.take_succ_cons, List.take_zero, List.drop_succ_cons, List.drop_zero, List.take_nil, List.drop_nil, bls_nil, bls_cons, nums_nil, nums_cons, all_nil', all_cons', any_nil', any_cons', Bool.and_true, Bool.true_and, Bool.or_false, Bool.false_or, Bool.and_false, Bool.false_and])
local macro_rules | `(tactic| walk_at "evn") => `(tactic| try simp (maxSteps := 2000000) only [dVar, dC, dOp, dNeg, dIsN, dNotN, dTst, dAnd, dOr, dNot, dAndV, dOrV, dNotV, dIf, aNil, aCons, aTank, aStar, dTup, dLst, vals?, oF, oG, fAdd_int, fAdd_lst, fAdd_tup, fAdd_str, fSub_int, fSub_bl, fMul_int, fMul_lst, fDiv_int, fMod_int, fPow_int, fShl_int, fLt_int, fLe_int, fGt_int, fGe_int, fEq_int, fEq_str, fEq_bl, fEq_tup, fEq_lst, fEq_tn, fEq_nt, fEq_nn,
  fNe_int, fNe_str, fNe_bl, fNe_tup, fNe_lst, fNe_tn, fNe_nt, fNe_nn, fIn_lst, fNotIn_lst, fInS_lst, fInS_tup, fNotInS_lst, fNotInS_tup, gTL, iZA, zip2_lst, zip2_tup, zipD_nil, zipD_cons, enD, iEn, sOwnC, sParC, sPar3C, gOs, sFrq, dView, dViewT, noL_int, noL_bl, noL_str, noL_non, noL_tup, noLL_nil, noLL_cons, fIx_tup, fIx_lst, fIx_scr, ixR_some, it_tup, it_lst, cutq_lst, cutq_scr, cutq_tup, dSlQ, pSome, sSeq, sRet, sExpr, sIf, sAsg, gN, gsNil, gsCons, gT, sPar, sPar3, sParO, sForI, iQ, iR1, iR2, iR3, iZ, dCall, dCallT, dBlt, fLen_tup, fLen_lst, fLen_scr, fI1_int, fI2_int, fInt_int, fInt_bl, fSqrt_isq, fDivmod_int, fAll_lst, fAny_lst, fSum_lst, blR_some, nuR_some, fTuple_lst, fTuple_tup, fList_lst, fList_tup, fList_scr, fRepr_int, fRepr_tup, fRepr_lst, dIsi, isTy, sOwn, sFrz, sApp,
  dTix, gTs, isTank, dLc, cN, cT, setAll, dYes, wipeD, no0, isNon_non, isNon_int, isNon_bl, isNon_str, isNon_tup, isNon_lst, eqD_int, eqD_str, eqD_bl, eqD_nn, eqD_ni, eqD_in, eqD_nt, eqD_tn, eqD_tup, eqD_lst, eqDL_nil, eqDL_nc, eqDL_cn, eqDL_cons, Bool.and_eq_true, List.any_cons, List.any_nil, ifT, ifF, ifA, ifO, List.length_cons, List.length_nil, List.cons_append, List.nil_append, List.getElem?_cons_zero, List.getElem?_cons_succ, List.set_cons_zero, List.set_cons_succ, Option.map_some, Nat.reduceAdd, Nat.reduceSub, atI_lit, ixN_lit, atI_m1, Nat.reduceLT, reduceIte, Nat.reduceLeDiff, true_and,
  and_true, List.append_nil, List.map_cons, List.map_nil, decide_eq_true_eq, Bool.not_eq_true', decide_eq_false_iff_not, Int.cast_ofNat_Int, Int.reduceLT, Int.reduceLE, decide_true, decide_false, Bool.false_eq_true, Bool.not_true, Bool.not_false, lcD, forL_c, forL_n, cut_none, cut_to, cut_from, cut_fromto, List.take_succ_cons, List.take_zero, List.drop_succ_cons, List.drop_zero, List.take_nil, List.drop_nil, bls_nil, bls_cons, nums_nil, nums_cons, all_nil', all_cons', any_nil', any_cons', Bool.and_true, Bool.true_and, Bool.or_false, Bool.false_or, Bool.and_false, Bool.false_and, intsL, Int.reduceToNat, Int.reduceAdd, Int.reduceSub, Int.reduceMul, Int.reduceMod, Int.reduceNeg, Int.reducePow, Int.reduceEq, Int.reduceNe, Int.one_mul, Int.neg_mul, ne_eq, not_true_eq_false, not_false_eq_true, repD_succ, repD_zero, Nat.reduceMul])
local macro_rules | `(tactic| walk_at "mok") => `(tactic| (apply Sz.mulOk; (repeat' (first | assumption | apply Sz.mul | apply Sz.add | apply Sz.sub | apply Sz.neg)); all_goals omega))
local macro_rules | `(tactic| walk_at "evs") => `(tactic| try simp (maxSteps := 2000000) only [dVar, dC, dOp, dNeg, dIsN, dNotN, dTst, dAnd, dOr, dNot, dAndV, dOrV, dNotV, dIf, aNil, aCons, aTank, aStar, dTup, dLst, vals?, oF, oG, fAdd_int, fAdd_lst, fAdd_tup, fAdd_str, fSub_int, fSub_bl, fMul_int, fMul_lst, fDiv_int, fMod_int, fPow_int, fShl_int, fLt_int, fLe_int, fGt_int, fGe_int, fEq_int, fEq_str, fEq_bl, fEq_tup, fEq_lst, fEq_tn, fEq_nt, fEq_nn,
  fNe_int, fNe_str, fNe_bl, fNe_tup, fNe_lst, fNe_tn, fNe_nt, fNe_nn, fIn_lst, fNotIn_lst, fInS_lst, fInS_tup, fNotInS_lst, fNotInS_tup, gTL, iZA, zip2_lst, zip2_tup, zipD_nil, zipD_cons, iEn, sOwnC, sParC, sPar3C, gOs, sFrq, dView, dViewT, noL_int, noL_bl, noL_str, noL_non, noL_tup, noLL_nil, noLL_cons, fIx_tup, fIx_lst, fIx_scr, ixR_some, it_tup, it_lst, cutq_lst, cutq_scr, cutq_tup, dSlQ, pSome, sSeq, sRet, sExpr, sIf, sAsg, gN, gsNil, gsCons, gT, sPar, sPar3, sParO, sForI, iQ, iR1, iR2, iR3, iZ, dCall, dCallT, dBlt, fLen_tup, fLen_lst, fLen_scr, fI1_int, fI2_int, fInt_int, fInt_bl, fSqrt_isq, fDivmod_int, fAll_lst, fAny_lst, fSum_lst, blR_some, nuR_some, fTuple_lst, fTuple_tup, fList_lst, fList_tup, fList_scr, fRepr_int, fRepr_tup, fRepr_lst, dIsi, isTy, sOwn, sFrz, sApp,
  dTix, gTs, isTank, dLc, cN, cT, setAll, dYes, wipeD, no0, isNon_non, isNon_int, isNon_bl, isNon_str, isNon_tup, isNon_lst, eqD_int, eqD_str, eqD_bl, eqD_nn, eqD_ni, eqD_in, eqD_nt, eqD_tn, eqD_tup, eqD_lst, eqDL_nil, eqDL_nc, eqDL_cn, eqDL_cons, Bool.and_eq_true, List.any_cons, List.any_nil, ifT, ifF, ifA, ifO, List.length_cons, List.length_nil, List.cons_append, List.nil_append, List.getElem?_cons_zero, List.getElem?_cons_succ, List.set_cons_zero, List.set_cons_succ, Option.map_some, Nat.reduceAdd, Nat.reduceSub, atI_lit, ixN_lit, atI_m1, Nat.reduceLT, reduceIte, Nat.reduceLeDiff, true_and,
  and_true, List.append_nil, List.map_cons, List.map_nil, decide_eq_true_eq, Bool.not_eq_true', decide_eq_false_iff_not, Int.cast_ofNat_Int, Int.reduceLT, Int.reduceLE, decide_true, decide_false, Bool.false_eq_true, Bool.not_true, Bool.not_false, lcD, cut_none, cut_to, cut_from, cut_fromto, List.take_succ_cons, List.take_zero, List.drop_succ_cons, List.drop_zero, List.take_nil, List.drop_nil, bls_nil, bls_cons, nums_nil, nums_cons, all_nil', all_cons', any_nil', any_cons', Bool.and_true, Bool.true_and, Bool.or_false, Bool.false_or, Bool.and_false, Bool.false_and, intsL, Int.reduceToNat, Int.reduceAdd, Int.reduceSub, Int.reduceMul, Int.reduceMod, Int.reduceNeg, Int.reducePow, Int.reduceEq, Int.reduceNe, Int.one_mul, Int.neg_mul, ne_eq, not_true_eq_false, not_false_eq_true, repD_succ, repD_zero, Nat.reduceMul])
local macro_rules | `(tactic| walk_at "evm") => `(tactic| try simp (maxSteps := 2000000) only [dVar, dC, dOp, dNeg, dIsN, dNotN, dTst, dAnd, dOr, dNot, dAndV, dOrV, dNotV, dIf, aNil, aCons, aTank, aStar, dTup, dLst, vals?, oF, oG, fAdd_int, fAdd_lst, fAdd_tup, fAdd_str, fSub_int, fSub_bl, fMul_int, fMul_lst, fDiv_int, fMod_int, fPow_int, fShl_int, fLt_int, fLe_int, fGt_int, fGe_int, fEq_int, fEq_str, fEq_bl, fEq_tup, fEq_lst, fEq_tn, fEq_nt, fEq_nn,
  fNe_int, fNe_str, fNe_bl, fNe_tup, fNe_lst, fNe_tn, fNe_nt, fNe_nn, fIn_lst, fNotIn_lst, fInS_lst, fInS_tup, fNotInS_lst, fNotInS_tup, gTL, iZA, zip2_lst, zip2_tup, zipD_nil, zipD_cons, iEn, sOwnC, sParC, sPar3C, gOs, sFrq, dView, dViewT, noL_int, noL_bl, noL_str, noL_non, noL_tup, noLL_nil, noLL_cons, fIx_tup, fIx_lst, fIx_scr, ixR_some, it_tup, it_lst, cutq_lst, cutq_scr, cutq_tup, dSlQ, pSome, sSeq, sRet, sExpr, sIf, sAsg, gN, gsNil, gsCons, gT, sPar, sPar3, sParO, sForI, iQ, iR1, iR2, iR3, iZ, dCall, dCallT, dBlt, fLen_tup, fLen_lst, fLen_scr, fI1_int, fI2_int, fInt_int, fInt_bl, fSqrt_isq, fDivmod_int, fAll_lst, fAny_lst, fSum_lst, blR_some, nuR_some, fTuple_lst, fTuple_tup, fList_lst, fList_tup, fList_scr, fRepr_int, fRepr_tup, fRepr_lst, dIsi, isTy, sOwn, sFrz, sApp,
  dTix, gTs, isTank, dLc, cN, cT, setAll, dYes, wipeD, no0, isNon_non, isNon_int, isNon_bl, isNon_str, isNon_tup, isNon_lst, eqD_int, eqD_str, eqD_bl, eqD_nn, eqD_ni, eqD_in, eqD_nt, eqD_tn, eqD_tup, eqD_lst, eqDL_nil, eqDL_nc, eqDL_cn, eqDL_cons, Bool.and_eq_true, List.any_cons, List.any_nil, ifT, ifF, ifA, ifO, List.length_cons, List.length_nil, List.cons_append, List.nil_append, List.getElem?_cons_zero, List.getElem?_cons_succ, List.set_cons_zero, List.set_cons_succ, Option.map_some, Nat.reduceAdd, Nat.reduceSub, atI_lit, ixN_lit, atI_m1, Nat.reduceLT, reduceIte, Nat.reduceLeDiff, true_and,
  and_true, List.append_nil, List.map_cons, List.map_nil, decide_eq_true_eq, Bool.not_eq_true', decide_eq_false_iff_not, Int.cast_ofNat_Int, Int.reduceLT, Int.reduceLE, decide_true, decide_false, Bool.false_eq_true, Bool.not_true, Bool.not_false, cut_none, cut_to, cut_from, cut_fromto, List.take_succ_cons, List.take_zero, List.drop_succ_cons, List.drop_zero, List.take_nil, List.drop_nil, bls_nil, bls_cons, nums_nil, nums_cons, all_nil', all_cons', any_nil', any_cons', Bool.and_true, Bool.true_and, Bool.or_false, Bool.false_or, Bool.and_false, Bool.false_and, intsL, Int.reduceToNat, Int.reduceAdd, Int.reduceSub, Int.reduceMul, Int.reduceMod, Int.reduceNeg, Int.reducePow, Int.reduceEq, Int.reduceNe, Int.one_mul, Int.neg_mul, ne_eq, not_true_eq_false, not_false_eq_true, repD_succ, repD_zero, Nat.reduceMul])
local macro_rules | `(tactic| walk_at "evq") => `(tactic| try simp (maxSteps := 2000000) only [dVar, dC, dOp, dNeg, dIsN, dNotN, dTst, dAnd, dOr, dNot, dAndV, dOrV, dNotV, dIf, aNil, aCons, aTank, aStar, dTup, dLst, vals?, oF, oG, fAdd_int, fAdd_lst, fAdd_tup, fAdd_str, fSub_int, fSub_bl, fMul_int, fMul_lst, fDiv_int, fMod_int, fPow_int, fShl_int, fLt_int, fLe_int, fGt_int, fGe_int, fEq_int, fEq_str, fEq_bl, fEq_tup, fEq_lst, fEq_tn, fEq_nt, fEq_nn,
  fNe_int, fNe_str, fNe_bl, fNe_tup, fNe_lst, fNe_tn, fNe_nt, fNe_nn, fIn_lst, fNotIn_lst, fInS_lst, fInS_tup, fNotInS_lst, fNotInS_tup, gTL, iZA, zip2_lst, zip2_tup, zipD_nil, zipD_cons, iEn, sOwnC, sParC, sPar3C, gOs, sFrq, dView, dViewT, noL_int, noL_bl, noL_str, noL_non, noL_tup, noLL_nil, noLL_cons, fIx_tup, fIx_lst, fIx_scr, ixR_some, it_tup, it_lst, cutq_lst, cutq_scr, cutq_tup, dSlQ, pSome, sSeq, sRet, sExpr, sIf, sAsg, gN, gsNil, gsCons, gT, sPar, sPar3, sParO, sForI, iQ, iR1, iR2, iR3, iZ, dCall, dCallT, dBlt, fLen_tup, fLen_lst, fLen_scr, fI1_int, fI2_int, fInt_int, fInt_bl, fSqrt_isq, fDivmod_int, fAll_lst, fAny_lst, fSum_lst, blR_some, nuR_some, fTuple_lst, fTuple_tup, fList_lst, fList_tup, fList_scr, fRepr_int, fRepr_tup, fRepr_lst, dIsi, isTy, sOwn, sFrz, sApp,
  dTix, gTs, isTank, dLc, cN, cT, setAll, dYes, wipeD, no0, isNon_non, isNon_int, isNon_bl, isNon_str, isNon_tup, isNon_lst, eqD_int, eqD_str, eqD_bl, eqD_nn, eqD_ni, eqD_in, eqD_nt, eqD_tn, eqD_tup, eqD_lst, eqDL_nil, eqDL_nc, eqDL_cn, eqDL_cons, Bool.and_eq_true, List.any_cons, List.any_nil, ifT, ifF, ifA, ifO, List.length_cons, List.length_nil, List.cons_append, List.nil_append, List.getElem?_cons_zero, List.getElem?_cons_succ, List.set_cons_zero, List.set_cons_succ, Option.map_some, Nat.reduceAdd, Nat.reduceSub, atI_lit, ixN_lit, atI_m1, Nat.reduceLT, reduceIte, Nat.reduceLeDiff, true_and,
  and_true, List.append_nil, List.map_cons, List.map_nil, decide_eq_true_eq, Bool.not_eq_true', decide_eq_false_iff_not, Int.cast_ofNat_Int, Int.reduceLT, Int.reduceLE, decide_true, decide_false, Bool.false_eq_true, Bool.not_true, Bool.not_false, cut_none, cut_to, cut_from, cut_fromto, List.take_succ_cons, List.take_zero, List.drop_succ_cons, List.drop_zero, List.take_nil, List.drop_nil, bls_nil, bls_cons, nums_nil, nums_cons, all_nil', all_cons', any_nil', any_cons', Bool.and_true, Bool.true_and, Bool.or_false, Bool.false_or, Bool.and_false, Bool.false_and, Int.reduceAdd, Int.reduceSub, Int.reduceMul, Int.reduceMod, Int.reduceNeg, Int.reducePow, Int.reduceEq, Int.reduceNe, Int.one_mul, Int.neg_mul, ne_eq, not_true_eq_false, not_false_eq_true, repD_succ, repD_zero, Nat.reduceMul])
local macro_rules | `(tactic| walk_at "wk") => `(tactic| (try simp (maxSteps := 2000000) (dsimp := false) (implicitDefEqProofs := false) only [↓h_var, ↓h_c, ↓h_op, ↓h_neg, ↓h_isN, ↓h_notN, ↓h_tst, ↓h_and, ↓h_or, ↓h_not, ↓h_andV, ↓h_orV, ↓h_notV, ↓h_if, ↓h_anil, ↓h_acons, ↓h_atank, ↓h_astar, ↓h_tup, ↓h_lst, ↓h_call, ↓h_callX, ↓h_tupIx, ↓h_raise1, ↓h_raise0, ↓h_isE, ↓h_givE, ↓h_mt, ↓h_callT, ↓h_callP, ↓h_aApp, ↓h_blt, ↓h_psome, ↓h_slq, ↓h_rev, ↓h_stp, ↓h_dct0, ↓h_dct1, ↓h_isi, ↓h_iQ, ↓h_iR1, ↓h_iR2, ↓h_iR3, ↓h_iZA, ↓h_iZ3, ↓h_iEn, ↓h_seq, ↓h_ret, ↓h_expr, ↓h_sif, ↓h_asg, ↓h_gN, ↓h_gsnil, ↓h_gscons, ↓h_gTL, ↓h_gT, ↓h_par, ↓h_par3, ↓h_parO, ↓h_parF, ↓h_parC, ↓h_par3C, ↓h_own, ↓h_ownC, ↓h_frz, ↓h_frq, ↓h_app, ↓h_view, ↓h_viewT, ↓h_gOs, ↓h_for, ↓h_lc, ↓h_lcO, ↓h_yes, ↓h_getT, ↓h_lenSet, ↓h_unpP, ↓h_pixT, ↓h_lam, ↓h_callXP, ↓h_tupP, ↓h_pix, ↓oF_pd, ↓orVK_t, ↓andVK_f, ↓orK_t, ↓andK_f, hid_nil, hid_c, hidS_val, hidS_own, hidS_tank, hidS_none, hidS_ptup, varK_pt, tuPK_go, pixK_go, varK_go, tixK_go, exK_0, exK_1, gvK_1, mtK_go, raiK_go, iteB_t, iteB_f, iteB_not, iteB_tt, setE_go, pdK_c, pdK_t, negK_go, bolK_go, tstK_go, andK_t, andK_f, andK_p, andK_q, orK_t, orK_f, orK_p, orK_q, andVK_t, andVK_f, andVK_p, andVK_q, orVK_t, orVK_f, orVK_p, orVK_q, notVK_go, tnkK_go, sqK_go, vals_val, vals_nil, callN_go, callP_go, lstK_go, opK_go, intK_go, blqK_go, r1K_go, r2K_go, r3K_go, zpK_go, zp3K_go, parK_go, parK3_go, ownK_o, ownK_v, ownK_n, natK_go, forK_nil, forK_cons, lcK_nil, lcK_cons, enK_go, h_cN, h_cT, setAll_nil, setAll_cons, wipe_nil, wipe_cons, okN_t, okN_non, okN_int, okN_bl, okN_tup, okN_lst, okL_nil, okL_cons, fMinT_tup, mnT_some, stp_tup, stp3_4, tupN_tup, getK_some, fReprE_lst, fReprE_tup, fReprE_int, fReprE_bl, fReprE_non, fCntT_lst, fIdxT_lst, cntC_some, idxC_some, ixR2_some, idxI_t, idxI_f, cntT_nil, cntT_t, cntT_f, fSortT_lst, stR_some, tups_nil, tups_c, tpC_some, fBitL_int, permL_n, permL_c, pmC_s, fMaxL_lst, mxR_some, isTy_dct, isNon_dct, fIs_bl, fIsn_bl, bIs_t, bIs_f, bIs_s, rev_lst, rev_tup, rev_scr, List.reverse_cons, List.reverse_nil, fAdd_int, fAdd_lst, fAdd_tup, fAdd_str, fSub_int, fSub_bl, fMul_int, fMul_lst, fDiv_int, fMod_int, fPow_int, fShl_int, fLt_int, fLe_int, fGt_int, fGe_int, fEq_int, fEq_str, fEq_bl, fEq_tup, fEq_lst, fEq_tn, fEq_nt, fEq_nn, fEq_it, fEq_ti, fEq_in, fEq_ni, fNe_in, fNe_ni, fNe_int, fNe_str, fNe_bl, fNe_tup, fNe_lst, fNe_tn, fNe_nt, fNe_nn, fInS_lst, fInS_tup, fNotInS_lst, fNotInS_tup, zip2_lst, zip2_tup, zip3_tup, zipD3_cons, zipD3_nil, zipD_nil, zipD_cons, enD, noL_int, noL_bl, noL_str, noL_non, noL_tup, noLL_nil, noLL_cons, fIx_tup, fIx_lst, fIx_scr, ixR_some, it_tup, it_lst, cutq_lst, cutq_scr, cutq_tup, fLen_tup, fLen_lst, fLen_scr, fI1_int, fI2_int, fInt_int, fInt_bl, fSqrt_isq, fDivmod_int, fAll_lst, fAny_lst, fSum_lst, blR_some, nuR_some, fTuple_lst, fTuple_tup, fList_lst, fList_tup, fList_scr, fRepr_int, fRepr_bl, fRepr_non, fRepr_tup, fRepr_lst, isTy, isNon_non, isNon_int, isNon_bl, isNon_str, isNon_tup, isNon_lst, eqD_int, eqD_str, eqD_bl, eqD_nn, eqD_ni, eqD_in, eqD_nt, eqD_tn, eqD_tup, eqD_lst, eqDL_nil, eqDL_nc, eqDL_cn, eqDL_cons, List.any_cons, List.any_nil, List.length_cons, List.length_nil, List.cons_append, List.nil_append, List.getElem?_cons_zero, List.getElem?_cons_succ, List.set_cons_zero, List.set_cons_succ, Option.map_some, Nat.reduceAdd, Nat.reduceSub, atI_lit, ixN_lit, atI_m1, Nat.reduceLT, reduceIte, Nat.reduceLeDiff, true_and, and_true, List.append_nil, List.map_cons, List.map_nil, Bool.not_eq_true', Int.cast_ofNat_Int, Int.reduceLT, Int.reduceLE, decide_true, decide_false, Bool.false_eq_true, Bool.not_true, Bool.not_false, cut_none, cut_to, cut_from, cut_fromto, List.take_succ_cons, List.take_zero, List.drop_succ_cons, List.drop_zero, List.take_nil, List.drop_nil, bls_nil, bls_cons, nums_nil, nums_cons, all_nil', all_cons', any_nil', any_cons', Bool.and_true, Bool.true_and, Bool.or_false, Bool.false_or, Bool.and_false, Bool.false_and, Bool.true_or, Bool.or_true, Int.reduceToNat, Int.reduceAdd, Int.reduceSub, Int.reduceMul, Int.reduceMod, Int.reduceNeg, Int.reducePow, Int.reduceEq, Int.reduceNe, Int.one_mul, Int.neg_mul, ne_eq, not_true_eq_false, not_false_eq_true, repD_succ, repD_zero, Nat.reduceMul, Bool.not_not, eq_self, and_self, false_implies, true_implies, implies_true, Nat.reduceEqDiff]); try rewrite [callS_eq]; try (refine lamK_in ?_))
local macro_rules | `(tactic| walk_at "wki") => `(tactic| (try simp (maxSteps := 2000000) (dsimp := false) (implicitDefEqProofs := false) only [↓h_var, ↓h_c, ↓h_op, ↓h_neg, ↓h_isN, ↓h_notN, ↓h_tst, ↓h_and, ↓h_or, ↓h_not, ↓h_andV, ↓h_orV, ↓h_notV, ↓h_if, ↓h_anil, ↓h_acons, ↓h_atank, ↓h_astar, ↓h_tup, ↓h_lst, ↓h_call, ↓h_callX, ↓h_tupIx, ↓h_raise1, ↓h_raise0, ↓h_isE, ↓h_givE, ↓h_mt, ↓h_callT, ↓h_callP, ↓h_aApp, ↓h_blt, ↓h_psome, ↓h_slq, ↓h_rev, ↓h_stp, ↓h_dct0, ↓h_dct1, ↓h_isi, ↓h_iQ, ↓h_iR1, ↓h_iR2, ↓h_iR3, ↓h_iZA, ↓h_iZ3, ↓h_iEn, ↓h_seq, ↓h_ret, ↓h_expr, ↓h_sif, ↓h_asg, ↓h_gN, ↓h_gsnil, ↓h_gscons, ↓h_gTL, ↓h_gT, ↓h_par, ↓h_par3, ↓h_parO, ↓h_parF, ↓h_parC, ↓h_par3C, ↓h_own, ↓h_ownC, ↓h_frz, ↓h_frq, ↓h_app, ↓h_view, ↓h_viewT, ↓h_gOs, ↓h_for, ↓h_lc, ↓h_lcO, ↓h_yes, ↓h_getT, ↓h_lenSet, ↓h_unpP, ↓h_pixT, ↓h_lam, ↓h_callXP, ↓h_tupP, ↓h_pix, ↓oF_pd, ↓orVK_t, ↓andVK_f, ↓orK_t, ↓andK_f, hid_nil, hid_c, hidS_val, hidS_own, hidS_tank, hidS_none, hidS_ptup, varK_pt, tuPK_go, pixK_go, varK_go, tixK_go, exK_0, exK_1, gvK_1, mtK_go, raiK_go, iteB_t, iteB_f, iteB_not, iteB_tt, setE_go, pdK_c, pdK_t, negK_go, bolK_go, tstK_go, andK_t, andK_f, andK_p, andK_q, orK_t, orK_f, orK_p, orK_q, andVK_t, andVK_f, andVK_p, andVK_q, orVK_t, orVK_f, orVK_p, orVK_q, notVK_go, tnkK_go, sqK_go, vals_val, vals_nil, callN_go, callP_go, lstK_go, opK_go, intK_go, blqK_go, r1K_go, r2K_go, r3K_go, zpK_go, zp3K_go, parK_go, parK3_go, ownK_o, ownK_v, ownK_n, natK_go, forK_nil, forK_cons, lcK_nil, lcK_cons, enK_go, h_cN, h_cT, setAll_nil, setAll_cons, wipe_nil, wipe_cons, okN_t, okN_non, okN_int, okN_bl, okN_tup, okN_lst, okL_nil, okL_cons, fMinT_tup, mnT_some, stp_tup, stp3_4, tupN_tup, getK_some, fReprE_lst, fReprE_tup, fReprE_int, fReprE_bl, fReprE_non, fCntT_lst, fIdxT_lst, cntC_some, idxC_some, ixR2_some, idxI_t, idxI_f, cntT_nil, cntT_t, cntT_f, fSortT_lst, stR_some, tups_nil, tups_c, tpC_some, fBitL_int, permL_n, permL_c, pmC_s, fMaxL_lst, mxR_some, isTy_dct, isNon_dct, fIs_bl, fIsn_bl, bIs_t, bIs_f, bIs_s, rev_lst, rev_tup, rev_scr, List.reverse_cons, List.reverse_nil, fAdd_int, fAdd_lst, fAdd_tup, fAdd_str, fSub_int, fSub_bl, fMul_int, fMul_lst, fDiv_int, fMod_int, fPow_int, fShl_int, fLt_int, fLe_int, fGt_int, fGe_int, fEq_int, fEq_str, fEq_bl, fEq_tup, fEq_lst, fEq_tn, fEq_nt, fEq_nn, fEq_it, fEq_ti, fEq_in, fEq_ni, fNe_in, fNe_ni, fNe_int, fNe_str, fNe_bl, fNe_tup, fNe_lst, fNe_tn, fNe_nt, fNe_nn, fInS_lst, fInS_tup, fNotInS_lst, fNotInS_tup, zip2_lst, zip2_tup, zip3_tup, zipD3_cons, zipD3_nil, zipD_nil, zipD_cons, enD, noL_int, noL_bl, noL_str, noL_non, noL_tup, noLL_nil, noLL_cons, fIx_tup, fIx_lst, fIx_scr, ixR_some, it_tup, it_lst, cutq_lst, cutq_scr, cutq_tup, fLen_tup, fLen_lst, fLen_scr, fI1_int, fI2_int, fInt_int, fInt_bl, fSqrt_isq, fDivmod_int, fAll_lst, fAny_lst, fSum_lst, blR_some, nuR_some, fTuple_lst, fTuple_tup, fList_lst, fList_tup, fList_scr, fRepr_int, fRepr_bl, fRepr_non, fRepr_tup, fRepr_lst, isTy, isNon_non, isNon_int, isNon_bl, isNon_str, isNon_tup, isNon_lst, eqD_int, eqD_str, eqD_bl, eqD_nn, eqD_ni, eqD_in, eqD_nt, eqD_tn, eqD_tup, eqD_lst, eqDL_nil, eqDL_nc, eqDL_cn, eqDL_cons, List.any_cons, List.any_nil, List.length_cons, List.length_nil, List.cons_append, List.nil_append, List.getElem?_cons_zero, List.getElem?_cons_succ, List.set_cons_zero, List.set_cons_succ, Option.map_some, Nat.reduceAdd, Nat.reduceSub, atI_lit, ixN_lit, atI_m1, Nat.reduceLT, reduceIte, Nat.reduceLeDiff, true_and, and_true, List.append_nil, List.map_cons, List.map_nil, Bool.not_eq_true', Int.cast_ofNat_Int, Int.reduceLT, Int.reduceLE, decide_true, decide_false, Bool.false_eq_true, Bool.not_true, Bool.not_false, cut_none, cut_to, cut_from, cut_fromto, List.take_succ_cons, List.take_zero, List.drop_succ_cons, List.drop_zero, List.take_nil, List.drop_nil, bls_nil, bls_cons, nums_nil, nums_cons, all_nil', all_cons', any_nil', any_cons', Bool.and_true, Bool.true_and, Bool.or_false, Bool.false_or, Bool.and_false, Bool.false_and, Bool.true_or, Bool.or_true, Int.reduceToNat, Int.reduceAdd, Int.reduceSub, Int.reduceMul, Int.reduceMod, Int.reduceNeg, Int.reducePow, Int.reduceEq, Int.reduceNe, Int.one_mul, Int.neg_mul, ne_eq, not_true_eq_false, not_false_eq_true, repD_succ, repD_zero, Nat.reduceMul, Bool.not_not, eq_self, and_self, false_implies, true_implies, implies_true, Nat.reduceEqDiff, intsL]); try rewrite [callS_eq]; try (refine lamK_in ?_))
local macro_rules | `(tactic| walk_at "wkn") => `(tactic| (try simp (maxSteps := 2000000) (dsimp := false) (implicitDefEqProofs := false) only [↓h_var, ↓h_c, ↓h_op, ↓h_neg, ↓h_isN, ↓h_notN, ↓h_tst, ↓h_and, ↓h_or, ↓h_not, ↓h_andV, ↓h_orV, ↓h_notV, ↓h_if, ↓h_anil, ↓h_acons, ↓h_atank, ↓h_astar, ↓h_tup, ↓h_lst, ↓h_call, ↓h_callX, ↓h_tupIx, ↓h_raise1, ↓h_raise0, ↓h_isE, ↓h_givE, ↓h_mt, ↓h_callT, ↓h_callP, ↓h_aApp, ↓h_blt, ↓h_psome, ↓h_slq, ↓h_rev, ↓h_stp, ↓h_dct0, ↓h_dct1, ↓h_isi, ↓h_iQ, ↓h_iR1, ↓h_iR2, ↓h_iR3, ↓h_iZA, ↓h_iZ3, ↓h_iEn, ↓h_seq, ↓h_ret, ↓h_expr, ↓h_sif, ↓h_asg, ↓h_gN, ↓h_gsnil, ↓h_gscons, ↓h_gTL, ↓h_gT, ↓h_par, ↓h_par3, ↓h_parO, ↓h_parF, ↓h_parC, ↓h_par3C, ↓h_own, ↓h_ownC, ↓h_frz, ↓h_frq, ↓h_app, ↓h_view, ↓h_viewT, ↓h_gOs, ↓h_for, ↓h_lc, ↓h_lcO, ↓h_yes, ↓h_getT, ↓h_lenSet, ↓h_unpP, ↓h_pixT, ↓h_lam, ↓h_callXP, ↓h_tupP, ↓h_pix, ↓oF_pd, ↓orVK_t, ↓andVK_f, ↓orK_t, ↓andK_f, hid_nil, hid_c, hidS_val, hidS_own, hidS_tank, hidS_none, hidS_ptup, varK_pt, tuPK_go, pixK_go, varK_go, tixK_go, exK_0, exK_1, gvK_1, mtK_go, raiK_go, iteB_t, iteB_f, iteB_not, iteB_tt, setE_go, pdK_c, pdK_t, negK_go, bolK_go, tstK_go, andK_t, andK_f, andK_p, andK_q, orK_t, orK_f, orK_p, orK_q, andVK_t, andVK_f, andVK_p, andVK_q, orVK_t, orVK_f, orVK_p, orVK_q, notVK_go, tnkK_go, sqK_go, vals_val, vals_nil, callN_go, callP_go, lstK_go, opK_go, intK_go, blqK_go, r1K_go, r2K_go, r3K_go, zpK_go, zp3K_go, parK_go, parK3_go, ownK_o, ownK_v, ownK_n, natK_go, forK_nil, lcK_nil, enK_go, h_cN, h_cT, setAll_nil, setAll_cons, wipe_nil, wipe_cons, okN_t, okN_non, okN_int, okN_bl, okN_tup, okN_lst, okL_nil, okL_cons, fMinT_tup, mnT_some, stp_tup, stp3_4, tupN_tup, getK_some, fReprE_lst, fReprE_tup, fReprE_int, fReprE_bl, fReprE_non, fCntT_lst, fIdxT_lst, cntC_some, idxC_some, ixR2_some, idxI_t, idxI_f, cntT_nil, cntT_t, cntT_f, fSortT_lst, stR_some, tups_nil, tups_c, tpC_some, fBitL_int, permL_n, permL_c, pmC_s, fMaxL_lst, mxR_some, isTy_dct, isNon_dct, fIs_bl, fIsn_bl, bIs_t, bIs_f, bIs_s, rev_lst, rev_tup, rev_scr, List.reverse_cons, List.reverse_nil, fAdd_int, fAdd_lst, fAdd_tup, fAdd_str, fSub_int, fSub_bl, fMul_int, fMul_lst, fDiv_int, fMod_int, fPow_int, fShl_int, fLt_int, fLe_int, fGt_int, fGe_int, fEq_int, fEq_str, fEq_bl, fEq_tup, fEq_lst, fEq_tn, fEq_nt, fEq_nn, fEq_it, fEq_ti, fEq_in, fEq_ni, fNe_in, fNe_ni, fNe_int, fNe_str, fNe_bl, fNe_tup, fNe_lst, fNe_tn, fNe_nt, fNe_nn, fInS_lst, fInS_tup, fNotInS_lst, fNotInS_tup, zip2_lst, zip2_tup, zip3_tup, zipD3_cons, zipD3_nil, zipD_nil, zipD_cons, enD, noL_int, noL_bl, noL_str, noL_non, noL_tup, noLL_nil, noLL_cons, fIx_tup, fIx_lst, fIx_scr, ixR_some, it_tup, it_lst, cutq_lst, cutq_scr, cutq_tup, fLen_tup, fLen_lst, fLen_scr, fI1_int, fI2_int, fInt_int, fInt_bl, fSqrt_isq, fDivmod_int, fAll_lst, fAny_lst, fSum_lst, blR_some, nuR_some, fTuple_lst, fTuple_tup, fList_lst, fList_tup, fList_scr, fRepr_int, fRepr_bl, fRepr_non, fRepr_tup, fRepr_lst, isTy, isNon_non, isNon_int, isNon_bl, isNon_str, isNon_tup, isNon_lst, eqD_int, eqD_str, eqD_bl, eqD_nn, eqD_ni, eqD_in, eqD_nt, eqD_tn, eqD_tup, eqD_lst, eqDL_nil, eqDL_nc, eqDL_cn, eqDL_cons, List.any_cons, List.any_nil, List.length_cons, List.length_nil, List.cons_append, List.nil_append, List.getElem?_cons_zero, List.getElem?_cons_succ, List.set_cons_zero, List.set_cons_succ, Option.map_some, Nat.reduceAdd, Nat.reduceSub, atI_lit, ixN_lit, atI_m1, Nat.reduceLT, reduceIte, Nat.reduceLeDiff, true_and, and_true, List.append_nil, List.map_cons, List.map_nil, Bool.not_eq_true', Int.cast_ofNat_Int, Int.reduceLT, Int.reduceLE, decide_true, decide_false, Bool.false_eq_true, Bool.not_true, Bool.not_false, cut_none, cut_to, cut_from, cut_fromto, List.take_succ_cons, List.take_zero, List.drop_succ_cons, List.drop_zero, List.take_nil, List.drop_nil, bls_nil, bls_cons, nums_nil, nums_cons, all_nil', all_cons', any_nil', any_cons', Bool.and_true, Bool.true_and, Bool.or_false, Bool.false_or, Bool.and_false, Bool.false_and, Bool.true_or, Bool.or_true, Int.reduceToNat, Int.reduceAdd, Int.reduceSub, Int.reduceMul, Int.reduceMod, Int.reduceNeg, Int.reducePow, Int.reduceEq, Int.reduceNe, Int.one_mul, Int.neg_mul, ne_eq, not_true_eq_false, not_false_eq_true, repD_succ, repD_zero, Nat.reduceMul, Bool.not_not, eq_self, and_self, false_implies, true_implies, implies_true, Nat.reduceEqDiff]); try rewrite [callS_eq]; try (refine lamK_in ?_))

def TkOk (T : Tk) : Prop := ∃ a b c, T = [.int a, .int b, .int c] ∧ 0 ≤ a ∧ 0 ≤ b
set_option exponentiation.threshold 20000
theorem lit_mul {i j : Int} (h : i.natAbs < 2 ^ 64) : MulOk i j := .inl (.inl h)
theorem lit_mul' {i j : Int} (h : j.natAbs < 2 ^ 64) : MulOk i j := .inl (.inr h)
theorem lit_div {i j : Int} (h : 0 < j) (q : j.natAbs < 2 ^ 64) : DivOk i j := ⟨h, Nat.lt_of_lt_of_le q (Nat.pow_le_pow_right (by decide) (by decide))⟩
theorem lit_dm {i j : Int} (h : 0 < j) (q : j.natAbs < 2 ^ 64) : DmOk i j := ⟨h, Nat.lt_of_lt_of_le q (Nat.pow_le_pow_right (by decide) (by decide))⟩
theorem mul_self_nonneg' (a : Int) : 0 ≤ a * a := by
  rcases Int.le_total 0 a with h | h
  · exact Int.mul_nonneg h h
  · exact Int.mul_nonneg_of_nonpos_of_nonpos h h
theorem imul_self_pos {a : Int} (h : a ≠ 0) : 0 < a * a := by
  rcases Int.lt_or_gt_of_ne h with q | q
  · exact Int.mul_pos_of_neg_of_neg q q
  · exact Int.mul_pos q q
theorem lite_lst {xs : List D} (h : D.liteL xs) : (D.lst xs).lite := by simpa only [D.lite] using h
theorem lite_tup {xs : List D} (h : D.liteL xs) : (D.tup xs).lite := by simpa only [D.lite] using h
theorem liteL_nil : D.liteL [] := by simp only [D.liteL]
theorem liteL_cons {x : D} {xs : List D} (h : x.lite) (q : D.liteL xs) : D.liteL (x :: xs) := by simp only [D.liteL]; exact ⟨h, q⟩
abbrev Cx2 := Int × Int
def Cz (n : Nat) (z : Cx2) : Prop := Sz n z.1 ∧ Sz n z.2
def cadd (z w : Cx2) : Cx2 := (z.1 + w.1, z.2 + w.2)
def csub (z w : Cx2) : Cx2 := (z.1 - w.1, z.2 - w.2)
def cmul (z w : Cx2) : Cx2 := (z.1 * w.1 - z.2 * w.2, z.1 * w.2 + z.2 * w.1)
def cconj (z : Cx2) : Cx2 := (z.1, -z.2)
def cnrm (z : Cx2) : Int := z.1 * z.1 + z.2 * z.2
theorem Cz.mono {m n : Nat} {z : Cx2} (h : Cz m z) (l : m ≤ n) : Cz n z := ⟨h.1.mono l, h.2.mono l⟩
theorem Cz.add {n : Nat} {z w : Cx2} (h : Cz n z) (q : Cz n w) : Cz (n + 1) (cadd z w) := ⟨by simpa [cadd] using h.1.add q.1, by simpa [cadd] using h.2.add q.2⟩
theorem Cz.sub {n : Nat} {z w : Cx2} (h : Cz n z) (q : Cz n w) : Cz (n + 1) (csub z w) := ⟨by simpa [csub] using h.1.sub q.1, by simpa [csub] using h.2.sub q.2⟩
theorem Cz.mul {m n : Nat} {z w : Cx2} (h : Cz m z) (q : Cz n w) : Cz (m + n + 1) (cmul z w) := ⟨by simpa [cmul] using (h.1.mul q.1).sub (h.2.mul q.2), by simpa [cmul] using (h.1.mul q.2).add (h.2.mul q.1)⟩
theorem Cz.conj {n : Nat} {z : Cx2} (h : Cz n z) : Cz n (cconj z) := ⟨h.1, h.2.neg⟩
theorem lite_cx {n : Nat} {a b : Int} (h : Cz n (a, b)) (l : n ≤ 1900) : (D.tup [.int a, .int b]).lite := lite_tup (liteL_cons (h.1.lite l) (liteL_cons (h.2.lite l) liteL_nil))
theorem w_is_whole {T : Tk} {i : Int} {k : KD} (h : k (.bl true) T) : sm_is_whole [.val (.int i)] T k := by
  rw [e_is_whole, b_is_whole]
  walk_at "ev"
  exact h
theorem cnrm_pos {w : Cx2} (h : ¬(w.1 = 0 ∧ w.2 = 0)) : 0 < cnrm w := by
  unfold cnrm
  have h1 : 0 ≤ w.1 * w.1 := mul_self_nonneg' w.1
  have h2 : 0 ≤ w.2 * w.2 := mul_self_nonneg' w.2
  by_cases q : w.1 = 0
  · have : w.2 ≠ 0 := fun e => h ⟨q, e⟩
    have := imul_self_pos this
    omega
  · have := imul_self_pos q
    omega
theorem sz_0 {n : Nat} : Sz n 0 := Nat.two_pow_pos n

def gcdL (g : Int) : List Int → Int
  | [] => g | n :: r => gcdL (iGcd g n) r
theorem iGcd_nn (a b : Int) : 0 ≤ iGcd a b := Int.natCast_nonneg _
theorem gcdL_nn : ∀ (ns : List Int) (g : Int), 0 ≤ g → 0 ≤ gcdL g ns
  | [], _, h => h
  | n :: r, g, _ => gcdL_nn r _ (iGcd_nn g n)
theorem iGcd_dvd_l (a b : Int) : iGcd a b ∣ a := Int.natAbs_dvd_natAbs.mp (by rw [Int.natAbs_natCast]; exact Nat.gcd_dvd_left _ _)
theorem iGcd_dvd_r (a b : Int) : iGcd a b ∣ b := Int.natAbs_dvd_natAbs.mp (by rw [Int.natAbs_natCast]; exact Nat.gcd_dvd_right _ _)
theorem gcdL_dvd0 : ∀ (ns : List Int) (g : Int), gcdL g ns ∣ g
  | [], g => Int.dvd_refl g
  | n :: r, g => Int.dvd_trans (gcdL_dvd0 r _) (iGcd_dvd_l g n)
theorem gcdL_dvd : ∀ (ns : List Int) (g : Int), ∀ n ∈ ns, gcdL g ns ∣ n
  | [], _, _, h => by simp at h
  | m :: r, g, n, h => by
    rcases List.mem_cons.mp h with rfl | h
    · exact Int.dvd_trans (gcdL_dvd0 r _) (iGcd_dvd_r g n)
    · exact gcdL_dvd r _ n h
theorem gcdL_pos {ns : List Int} {n : Int} (hn : n ∈ ns) (h0 : n ≠ 0) : 0 < gcdL 0 ns := by
  have h1 := gcdL_nn ns 0 (Int.le_refl _)
  have h2 := gcdL_dvd ns 0 n hn
  rcases Int.lt_or_eq_of_le h1 with q | q
  · exact q
  · rw [← q] at h2
    exact absurd (Int.zero_dvd.mp h2) h0
def lowL (ns : List Int) : List Int := ns.map (· / gcdL 0 ns)
/-- a common divisor is no longer than a number it divides -/
theorem sz_dvd {m : Nat} {g n : Int} (h : g ∣ n) (h0 : n ≠ 0) (s : Sz m n) : Sz m g := by
  have := Nat.le_of_dvd (Int.natAbs_pos.mpr h0) (Int.natAbs_dvd_natAbs.mpr h)
  unfold Sz at *
  omega
theorem lc_div {A : Option SV} {B : En} {g : Int} {K : List D → Tk → Prop} (hg : ∀ i, DivOk i g) : ∀ (ns : List Int) (c : Option SV) (acc : List D) (T : Tk), K (acc ++ (ns.map (· / g)).map D.int) T →
    lcD (A :: some (.val (.int g)) :: c :: B) (cN 2) dYes (dOp (oF fDiv) (dVar 2) (dVar 1)) K (ns.map D.int) acc T
  | [], c, acc, T, h => by
    rw [List.map_nil, List.map_nil, List.append_nil] at h
    exact h
  | n :: ns, c, acc, T, h => by
    rw [List.map_cons]
    walk_at "ev"
    refine ⟨hg _, lc_div hg ns _ _ _ ?_⟩
    rw [List.append_assoc]
    exact h
theorem div_loop {A : Option SV} {F B C : En → Tk → Prop} {R : KD} {T : Tk} : ∀ (ns : List Int) (g : Int) (c : Option SV), (∀ c', F [A, some (.val (.int (gcdL g ns))), c'] T) →
    forL (gN 2) (sAsg (dBlt (oG (fI2 iGcd)) (aCons (dVar 1) (aCons (dVar 2) (aNil)))) (gN 1)) { nx := F, rt := R, bk := B, ct := C } (ns.map D.int) [A, some (.val (.int g)), c] T
  | [], g, c, h => h c
  | n :: ns, g, c, h => by
    rw [List.map_cons]
    walk_at "ev"
    exact div_loop ns _ _ h
theorem w_divisor_of {T : Tk} {ns : List Int} {k : KD} (hl : ns.length ≤ 1000000) (h : k (.int (gcdL 0 ns)) T) : sm_divisor_of [.val (.tup (ns.map D.int))] T k := by
  rw [e_divisor_of, b_divisor_of]
  walk_at "ev"
  refine ⟨by simpa using hl, ?_⟩
  refine div_loop ns 0 _ fun c => ?_
  walk_at "ev"
  exact h
theorem w_lowest {T : Tk} {ns : List Int} {k : KD} (hl : ns.length ≤ 1000000) {n : Int} (hn : n ∈ ns) (h0 : n ≠ 0) (hs : Sz 9000 n) (h : k (.tup ((lowL ns).map D.int)) T) : sm_lowest [.val (.tup (ns.map D.int))] T k := by
  rw [e_lowest, b_lowest]
  walk_at "ev"
  refine w_divisor_of hl ?_
  walk_at "ev"
  refine ⟨by simpa using hl, ?_⟩
  have hp := gcdL_pos hn h0
  have hd := sz_dvd (gcdL_dvd ns 0 n hn) h0 hs
  refine lc_div (fun i => hd.divOk (Nat.le_refl _) hp) ns _ _ _ ?_
  walk_at "ev"
  exact h
theorem w_is_lowest {T : Tk} {ns : List Int} {k : KD} (hl : ns.length ≤ 1000000) (h : k (.bl (decide (gcdL 0 ns = 1))) T) : sm_is_lowest [.val (.tup (ns.map D.int))] T k := by
  rw [e_is_lowest, b_is_lowest]
  walk_at "ev"
  refine w_divisor_of hl ?_
  walk_at "ev"
  exact h
theorem iGcd_comm (a b : Int) : iGcd a b = iGcd b a := by show ((Nat.gcd _ _ : Nat) : Int) = ((Nat.gcd _ _ : Nat) : Int); rw [Nat.gcd_comm]
theorem iGcd_mod {a b : Int} (ha : 0 ≤ a) (hb : 0 < b) : iGcd b (a % b) = iGcd a b := by
  obtain ⟨x, rfl⟩ := Int.eq_ofNat_of_zero_le ha
  obtain ⟨y, rfl⟩ := Int.eq_ofNat_of_zero_le (Int.le_of_lt hb)
  show ((Nat.gcd _ _ : Nat) : Int) = ((Nat.gcd _ _ : Nat) : Int)
  rw [← Int.natCast_emod, Int.natAbs_natCast, Int.natAbs_natCast, Int.natAbs_natCast, Nat.gcd_comm x y, Nat.gcd_rec y x, Nat.gcd_comm]
theorem iGcd_zero {a : Int} (h : 0 ≤ a) : iGcd a 0 = a := by
  show ((Nat.gcd _ _ : Nat) : Int) = a
  rw [Int.natAbs_zero, Nat.gcd_zero_right]
  omega
theorem iGcd_abs (a b : Int) : iGcd a (iAbs b) = iGcd a b := by
  show ((Nat.gcd _ _ : Nat) : Int) = ((Nat.gcd _ _ : Nat) : Int)
  have : (iAbs b).natAbs = b.natAbs := by unfold iAbs; split <;> omega
  rw [this]
theorem iAbs_nn (a : Int) : 0 ≤ iAbs a := by unfold iAbs; split <;> omega
theorem gcdL_scale {c : Int} (hc : 0 ≤ c) : ∀ (ns : List Int) (g : Int), 0 ≤ g → gcdL (c * g) (ns.map (c * ·)) = c * gcdL g ns
  | [], g, _ => rfl
  | n :: r, g, hg => by
    rw [List.map_cons]
    show gcdL (iGcd (c * g) (c * n)) _ = c * gcdL (iGcd g n) r
    have e : iGcd (c * g) (c * n) = c * iGcd g n := by
      show ((Nat.gcd _ _ : Nat) : Int) = c * ((Nat.gcd _ _ : Nat) : Int)
      rw [Int.natAbs_mul, Int.natAbs_mul, Nat.gcd_mul_left]
      rw [Int.natCast_mul]
      congr 1
      omega
    rw [e]
    exact gcdL_scale hc r _ (iGcd_nn _ _)
theorem lowL_scale {c : Int} (hc : 0 < c) (ns : List Int) : lowL (ns.map (c * ·)) = lowL ns := by
  unfold lowL
  have e := gcdL_scale (Int.le_of_lt hc) ns 0 (Int.le_refl _)
  rw [Int.mul_zero] at e
  rw [e, List.map_map]
  apply List.map_congr_left
  intro n _
  show c * n / (c * gcdL 0 ns) = n / gcdL 0 ns
  exact Int.mul_ediv_mul_of_pos _ _ hc
theorem lowL_same {c d : Int} (hc : 0 < c) (hd : 0 < d) {ns ms : List Int} (h : ns.map (c * ·) = ms.map (d * ·)) : lowL ns = lowL ms := by rw [← lowL_scale hc ns, h, lowL_scale hd ms]
theorem lowL_back {ns : List Int} : (lowL ns).map (gcdL 0 ns * ·) = ns := by
  unfold lowL
  rw [List.map_map]
  conv => rhs; rw [← List.map_id ns]
  apply List.map_congr_left
  intro n hn
  exact Int.mul_ediv_cancel' (gcdL_dvd ns 0 n hn)
theorem lowL_gcd {ns : List Int} (h : 0 < gcdL 0 ns) : gcdL 0 (lowL ns) = 1 := by
  have e := gcdL_scale (Int.le_of_lt h) (lowL ns) 0 (Int.le_refl _)
  rw [Int.mul_zero, lowL_back] at e
  have e' : gcdL 0 ns * 1 = gcdL 0 ns * gcdL 0 (lowL ns) := by rw [Int.mul_one]; exact e
  exact (Int.eq_of_mul_eq_mul_left (by omega) e').symm
theorem lowL_one {ns : List Int} (h : gcdL 0 ns = 1) : lowL ns = ns := by
  unfold lowL
  rw [h]
  conv => rhs; rw [← List.map_id ns]
  apply List.map_congr_left
  intro n _
  exact Int.ediv_one n
theorem gcd_uniq {c d : Int} (hc : 0 < c) (hd : 0 < d) {ns ms : List Int} (h1 : gcdL 0 ns = 1) (h2 : gcdL 0 ms = 1) (h : ns.map (c * ·) = ms.map (d * ·)) : ns = ms := by
  rw [← lowL_one h1, ← lowL_one h2]
  exact lowL_same hc hd h
abbrev P3 := Int × Int × Int
def P3.d (q : P3) : D := .tup [.int q.1, .int q.2.1, .int q.2.2]
/-- a place by its two rational coordinates -/
structure PlQ (n : Nat) (q : P3) (u v : Rat) : Prop where
  pos : 0 < q.2.2
  one : gcdL 0 [q.1, q.2.1, q.2.2] = 1
  s1 : Sz n q.1
  s2 : Sz n q.2.1
  s3 : Sz n q.2.2
  e1 : (q.1 : Rat) = u * (q.2.2 : Rat)
  e2 : (q.2.1 : Rat) = v * (q.2.2 : Rat)
theorem PlQ.mono {m n : Nat} {q : P3} {u v : Rat} (h : PlQ m q u v) (l : m ≤ n) : PlQ n q u v := ⟨h.pos, h.one, h.s1.mono l, h.s2.mono l, h.s3.mono l, h.e1, h.e2⟩
theorem cast_inj {a b : Int} (h : (a : Rat) = (b : Rat)) : a = b := Rat.intCast_inj.mp h
theorem PlQ.uniq {m n : Nat} {p q : P3} {u v : Rat} (h : PlQ m p u v) (h' : PlQ n q u v) : p = q := by
  obtain ⟨a, b, c⟩ := p
  obtain ⟨a', b', c'⟩ := q
  obtain ⟨p1, o1, _, _, _, x1, y1⟩ := h
  obtain ⟨p2, o2, _, _, _, x2, y2⟩ := h'
  simp only at *
  have q1 : c' * a = c * a' := cast_inj (by push_cast; rw [x1, x2]; grind)
  have q2 : c' * b = c * b' := cast_inj (by push_cast; rw [y1, y2]; grind)
  have := gcd_uniq p2 p1 o1 o2 (show [a, b, c].map (c' * ·) = [a', b', c'].map (c * ·) by simp [q1, q2, Int.mul_comm])
  simpa using this
theorem PlQ.ne {n : Nat} {p : P3} {u v : Rat} (h : PlQ n p u v) : (p.2.2 : Rat) ≠ 0 := fun e => by have := cast_inj (b := 0) e; have := h.pos; omega
theorem PlQ.e1' {n : Nat} {p : P3} {u v : Rat} (h : PlQ n p u v) : ((p.1 : Int) : Rat) = u * ((p.2.2 : Int) : Rat) := h.e1
theorem lite_pl {n : Nat} {p : P3} {u v : Rat} (h : PlQ n p u v) (l : n ≤ 1900) : (D.tup [.int p.1, .int p.2.1, .int p.2.2]).lite := lite_tup (liteL_cons (h.s1.lite l) (liteL_cons (h.s2.lite l) (liteL_cons (h.s3.lite l) liteL_nil)))
/-- a fraction by its value -/
structure FrQ (n : Nat) (q : Int × Int) (u : Rat) : Prop where
  pos : 0 < q.2
  one : gcdL 0 [q.1, q.2] = 1
  s1 : Sz n q.1
  s2 : Sz n q.2
  e1 : (q.1 : Rat) = u * (q.2 : Rat)
theorem FrQ.uniq {m n : Nat} {p q : Int × Int} {u : Rat} (h : FrQ m p u) (h' : FrQ n q u) : p = q := by
  obtain ⟨a, c⟩ := p
  obtain ⟨a', c'⟩ := q
  obtain ⟨p1, o1, _, _, x1⟩ := h
  obtain ⟨p2, o2, _, _, x2⟩ := h'
  simp only at *
  have q1 : c' * a = c * a' := cast_inj (by push_cast; rw [x1, x2]; grind)
  have := gcd_uniq p2 p1 o1 o2 (show [a, c].map (c' * ·) = [a', c'].map (c * ·) by simp [q1, Int.mul_comm])
  simpa using this
theorem frq_low {n : Nat} {x z : Int} {u : Rat} (hz : 0 < z) (s1 : Sz n x) (s3 : Sz n z) (e1 : (x : Rat) = u * z) : FrQ n (x / gcdL 0 [x, z], z / gcdL 0 [x, z]) u := by
  have hp : 0 < gcdL 0 [x, z] := gcdL_pos (n := z) (by simp) (by omega)
  have hb := lowL_back (ns := [x, z])
  have ho := lowL_gcd hp
  unfold lowL at hb ho
  generalize gcdL 0 [x, z] = g at *
  simp only [List.map_cons, List.map_nil, List.cons.injEq, and_true] at hb ho
  obtain ⟨b1, b3⟩ := hb
  have gz : (g : Rat) ≠ 0 := fun e => by have := cast_inj (b := 0) e; omega
  have c1 : (g : Rat) * ((x / g : Int) : Rat) = x := by rw [← Rat.intCast_mul, b1]
  have c3 : (g : Rat) * ((z / g : Int) : Rat) = z := by rw [← Rat.intCast_mul, b3]
  refine ⟨?_, ho, s1.ediv, s3.ediv, ?_⟩
  · rcases Int.lt_or_le 0 (z / g) with q | q
    · exact q
    · have := Int.mul_nonpos_of_nonneg_of_nonpos (Int.le_of_lt hp) q
      omega
  · simp only; generalize ((x / g : Int) : Rat) = X at *; generalize ((z / g : Int) : Rat) = Z at *; grind
theorem w_fraction {T : Tk} {n : Nat} {x z : Int} {u : Rat} {k : KD} (hz : 0 < z) (s1 : Sz n x) (s3 : Sz n z) (hn : n ≤ 9000) (e1 : (x : Rat) = u * z) (h : ∀ q : Int × Int, FrQ n q u → k (.tup [.int q.1, .int q.2]) T) : sm_fraction [.val (.int x), .val (.int z)] T k := by
  rw [e_fraction, b_fraction]
  walk_at "ev"
  rw [if_pos hz]
  exact w_lowest (ns := [x, z]) (by simp) (n := z) (by simp) (by omega) (s3.mono hn) (h _ (frq_low hz s1 s3 e1))
theorem PlQ.uniq' {m n : Nat} {p q : P3} {u v u' v' : Rat} (h : PlQ m p u v) (h' : PlQ n q u' v') (e : u = u') (f : v = v') : p = q := by subst e f; exact h.uniq h'
theorem FrQ.uniq' {m n : Nat} {p q : Int × Int} {u u' : Rat} (h : FrQ m p u) (h' : FrQ n q u') (e : u = u') : p = q := by subst e; exact h.uniq h'

def fnz : List Int → Int
  | [] => 0
  | x :: r => if x = 0 then fnz r else x
abbrev R4 := Int × Int × Int × Int
def bnd (r : R4) : Int := r.2.1 * r.2.1 + r.2.2.1 * r.2.2.1 - 4 * r.1 * r.2.2.2
structure Rw (n : Nat) (r : R4) : Prop where
  one : gcdL 0 [r.1, r.2.1, r.2.2.1, r.2.2.2] = 1
  bend : 0 < bnd r
  s1 : Sz n r.1
  s2 : Sz n r.2.1
  s3 : Sz n r.2.2.1
  s4 : Sz n r.2.2.2
structure Rd (n : Nat) (r : R4) : Prop extends Rw n r where
  up : 0 < fnz [r.1, r.2.1, r.2.2.1, r.2.2.2]
theorem Rw.mono {m n : Nat} {r : R4} (h : Rw m r) (l : m ≤ n) : Rw n r := ⟨h.one, h.bend, h.s1.mono l, h.s2.mono l, h.s3.mono l, h.s4.mono l⟩
theorem Rd.mono {m n : Nat} {r : R4} (h : Rd m r) (l : m ≤ n) : Rd n r := ⟨h.toRw.mono l, h.up⟩
theorem sz_4 : Sz 3 4 := by unfold Sz; decide
theorem bnd_sz {n : Nat} {a b c d : Int} (s1 : Sz n a) (s2 : Sz n b) (s3 : Sz n c) (s4 : Sz n d) : Sz (2 * n + 4) (b * b + c * c - 4 * a * d) := by
  have := ((s2.mul s2).add (s3.mul s3)).sub ((sz_4.mul s1).mul s4)
  exact this.mono (by omega)
theorem Rd.pos {n : Nat} {r : R4} (h : Rd n r) (h0 : r.1 ≠ 0) : 0 < r.1 := by
  have := h.up
  unfold fnz at this
  rw [if_neg h0] at this
  exact this
theorem w_bend {T : Tk} {n : Nat} {a b c d : Int} {k : KD} (s1 : Sz n a) (s2 : Sz n b) (s3 : Sz n c) (s4 : Sz n d) (hn : n ≤ 8000) (h : k (.int (bnd (a, b, c, d))) T) : sm_bend [.val (.tup [.int a, .int b, .int c, .int d])] T k := by
  rw [e_bend, b_bend]
  walk_at "ev"
  exact ⟨s2.mulOk s2 (by omega) (by omega), s3.mulOk s3 (by omega) (by omega), lit_mul (by decide), (sz_4.mul s1).mulOk s4 (by omega) (by omega), h⟩
theorem w_are_wholes_4 {T : Tk} {i j l m : Int} {k : KD} (h : k (.bl true) T) : sm_are_wholes [.val (.tup [.int i, .int j, .int l, .int m]), .val (.int 4)] T k := by
  rw [e_are_wholes, b_are_wholes]
  walk_at "ev"
  refine w_is_whole ?_
  walk_at "ev"
  refine w_is_whole ?_
  walk_at "ev"
  refine w_is_whole ?_
  walk_at "ev"
  refine w_is_whole ?_
  walk_at "ev"
  exact h
theorem w_is_row {T : Tk} {n : Nat} {r : R4} {k : KD} (hr : Rw n r) (hn : n ≤ 8000) (h : k (.bl true) T) : sm_is_row [.val (.tup [.int r.1, .int r.2.1, .int r.2.2.1, .int r.2.2.2])] T k := by
  rw [e_is_row, b_is_row]
  walk_at "ev"
  refine w_are_wholes_4 ?_
  walk_at "ev"
  refine w_is_lowest (ns := [r.1, r.2.1, r.2.2.1, r.2.2.2]) (by simp) ?_
  rw [hr.one]
  walk_at "ev"
  refine w_bend hr.s1 hr.s2 hr.s3 hr.s4 hn ?_
  walk_at "ev"
  rw [decide_eq_true hr.bend]
  exact h
theorem w_is_led_up4 {T : Tk} {a b c d : Int} {k : KD} (h : k (.bl (decide (0 < fnz [a, b, c, d]))) T) : sm_is_led_up [.val (.tup [.int a, .int b, .int c, .int d])] T k := by
  rw [e_is_led_up, b_is_led_up]
  walk_at "ev"
  unfold fnz fnz fnz fnz fnz at h
  by_cases h1 : a = 0
  · rw [if_neg (not_not_intro h1)]
    rw [if_pos h1] at h
    by_cases h2 : b = 0
    · rw [if_neg (not_not_intro h2)]
      rw [if_pos h2] at h
      by_cases h3 : c = 0
      · rw [if_neg (not_not_intro h3)]
        rw [if_pos h3] at h
        by_cases h4 : d = 0
        · rw [if_neg (not_not_intro h4)]
          rw [if_pos h4] at h
          exact h
        · rw [if_pos h4]
          rw [if_neg h4] at h
          exact h
      · rw [if_pos h3]
        rw [if_neg h3] at h
        exact h
    · rw [if_pos h2]
      rw [if_neg h2] at h
      exact h
  · rw [if_pos h1]
    rw [if_neg h1] at h
    exact h
theorem w_is_round {T : Tk} {n : Nat} {r : R4} {k : KD} (hr : Rd n r) (hn : n ≤ 8000) (h : k (.bl true) T) : sm_is_round [.val (.tup [.int r.1, .int r.2.1, .int r.2.2.1, .int r.2.2.2])] T k := by
  rw [e_is_round, b_is_round]
  walk_at "ev"
  refine w_is_row hr.toRw hn ?_
  walk_at "ev"
  refine w_is_led_up4 ?_
  rw [decide_eq_true hr.up]
  exact h
theorem w_check_round {T : Tk} {n : Nat} {r : R4} {k : KD} (hr : Rd n r) (hn : n ≤ 8000) (h : k .non T) : sm_check_round [.val (.tup [.int r.1, .int r.2.1, .int r.2.2.1, .int r.2.2.2])] T k := by
  rw [e_check_round, b_check_round]
  walk_at "ev"
  refine w_is_round hr hn ?_
  walk_at "ev"
  exact h
def val4 (r : R4) (p : P3) : Int := r.1 * (p.1 * p.1 + p.2.1 * p.2.1) + r.2.1 * p.1 * p.2.2 + r.2.2.1 * p.2.1 * p.2.2 + r.2.2.2 * p.2.2 * p.2.2
def isgn (a : Int) : Int := if 0 < a then 1 else if a < 0 then -1 else 0
theorem filt_head : ∀ (ns : List Int), fnz ns ≠ 0 → ((ns.filter fun x => !decide (x = 0)).map D.int)[0]? = some (.int (fnz ns))
  | [], h => absurd rfl h
  | n :: r, h => by
    unfold fnz at h ⊢
    by_cases q : n = 0
    · rw [if_pos q] at h ⊢
      rw [List.filter_cons_of_neg (by simp [q])]
      exact filt_head r h
    · rw [if_neg q]
      rw [List.filter_cons_of_pos (by simp [q])]
      rfl
theorem fnz_neg : ∀ ns : List Int, fnz (ns.map fun x => 0 - x) = - fnz ns
  | [] => rfl
  | n :: r => by
    rw [List.map_cons]
    unfold fnz
    by_cases q : n = 0
    · rw [if_pos q, if_pos (by omega)]; exact fnz_neg r
    · rw [if_neg q, if_neg (by omega)]; omega
theorem fnz_zero : ∀ ns : List Int, fnz ns = 0 → ∀ n ∈ ns, n = 0
  | [], _, _, h => by simp at h
  | m :: r, h, n, hn => by
    unfold fnz at h
    by_cases q : m = 0
    · rw [if_pos q] at h
      rcases List.mem_cons.mp hn with e | e
      · rw [e]; exact q
      · exact fnz_zero r h n e
    · rw [if_neg q] at h
      exact absurd h q
theorem gcdL_neg : ∀ (ns : List Int) (g : Int), gcdL g (ns.map fun x => 0 - x) = gcdL g ns
  | [], g => rfl
  | n :: r, g => by
    rw [List.map_cons]
    show gcdL (iGcd g (0 - n)) _ = gcdL (iGcd g n) r
    have e : iGcd g (0 - n) = iGcd g n := by
      show ((Nat.gcd _ _ : Nat) : Int) = ((Nat.gcd _ _ : Nat) : Int)
      rw [Int.zero_sub, Int.natAbs_neg]
    rw [e]
    exact gcdL_neg r _
theorem Rw.neg {n : Nat} {r : R4} (h : Rw n r) : Rw n (0 - r.1, 0 - r.2.1, 0 - r.2.2.1, 0 - r.2.2.2) := by
  refine ⟨?_, ?_, ?_, ?_, ?_, ?_⟩
  · have := gcdL_neg [r.1, r.2.1, r.2.2.1, r.2.2.2] 0
    rw [h.one] at this
    exact this
  · have := h.bend
    unfold bnd at this ⊢
    simp only
    grind
  · simp only [Int.zero_sub]; exact h.s1.neg
  · simp only [Int.zero_sub]; exact h.s2.neg
  · simp only [Int.zero_sub]; exact h.s3.neg
  · simp only [Int.zero_sub]; exact h.s4.neg
theorem rne' {a : Int} (h : 0 < a) : (a : Rat) ≠ 0 := fun e => by have := cast_inj (b := 0) e; omega
abbrev pD (q : P3) : D := .tup [.int q.1, .int q.2.1, .int q.2.2]
/-- a place, the far one too -/
structure Pt (n : Nat) (q : P3) : Prop where
  ok : (q.1 = 1 ∧ q.2.1 = 0 ∧ q.2.2 = 0) ∨ 0 < q.2.2
  one : gcdL 0 [q.1, q.2.1, q.2.2] = 1
  s1 : Sz n q.1
  s2 : Sz n q.2.1
  s3 : Sz n q.2.2
theorem Pt.mono {m n : Nat} {q : P3} (h : Pt m q) (l : m ≤ n) : Pt n q := ⟨h.ok, h.one, h.s1.mono l, h.s2.mono l, h.s3.mono l⟩
theorem PlQ.pt {n : Nat} {q : P3} {u v : Rat} (h : PlQ n q u v) : Pt n q := ⟨.inr h.pos, h.one, h.s1, h.s2, h.s3⟩
theorem sz_1 {n : Nat} (h : 1 ≤ n) : Sz n 1 := Nat.pow_lt_pow_right (m := 0) (n := n) (by decide) (by omega)
theorem pt_far {n : Nat} (h : 1 ≤ n) : Pt n (1, 0, 0) := ⟨.inl ⟨rfl, rfl, rfl⟩, by decide, sz_1 h, sz_0, sz_0⟩
theorem Pt.far {n : Nat} {q : P3} (h : Pt n q) (e : q.2.2 = 0) : q = (1, 0, 0) := by
  obtain ⟨a, b, c⟩ := q
  rcases h.ok with ⟨e1, e2, e3⟩ | e1
  · simp only at e1 e2 e3; subst e1 e2 e3; rfl
  · simp only at e e1; omega
theorem Pt.nn {n : Nat} {q : P3} (h : Pt n q) : 0 ≤ q.2.2 := by rcases h.ok with ⟨_, _, e3⟩ | e1 <;> omega
theorem lite_pt {n : Nat} {p : P3} (h : Pt n p) (l : n ≤ 1900) : (pD p).lite := lite_tup (liteL_cons (h.s1.lite l) (liteL_cons (h.s2.lite l) (liteL_cons (h.s3.lite l) liteL_nil)))
/-- the square of how far apart, times what is below -/
def dd (p q : P3) : Int := (p.1 * q.2.2 - q.1 * p.2.2) * (p.1 * q.2.2 - q.1 * p.2.2) + (p.2.1 * q.2.2 - q.2.1 * p.2.2) * (p.2.1 * q.2.2 - q.2.1 * p.2.2)
theorem two_sq {a b : Int} (h : a * a + b * b = 0) : a = 0 ∧ b = 0 := by
  have h1 := mul_self_nonneg' a
  have h2 := mul_self_nonneg' b
  constructor
  · by_cases c : a = 0
    · exact c
    · have := imul_self_pos c; omega
  · by_cases c : b = 0
    · exact c
    · have := imul_self_pos c; omega
theorem dd_zero {m n : Nat} {p q : P3} (hp : Pt m p) (hq : Pt n q) (h : dd p q = 0) : p = q := by
  obtain ⟨e1, e2⟩ := two_sq h
  by_cases z : p.2.2 = 0
  · have f := hp.far z
    subst f
    simp only [Int.one_mul, Int.mul_zero, Int.sub_zero] at e1
    exact (hq.far e1).symm
  by_cases z' : q.2.2 = 0
  · have f := hq.far z'
    subst f
    simp only [Int.one_mul, Int.mul_zero, Int.zero_sub] at e1
    exact absurd (by omega) z
  have p1 : 0 < p.2.2 := by have := hp.nn; omega
  have p2 : 0 < q.2.2 := by have := hq.nn; omega
  have o1 := hp.one
  have o2 := hq.one
  obtain ⟨a, b, c⟩ := p
  obtain ⟨a', b', c'⟩ := q
  simp only at *
  have := gcd_uniq p2 p1 o1 o2 (show [a, b, c].map (c' * ·) = [a', b', c'].map (c * ·) by
    simp only [List.map_cons, List.map_nil, List.cons.injEq, and_true]
    refine ⟨?_, ?_, Int.mul_comm _ _⟩
    · rw [Int.mul_comm c' a, Int.mul_comm c a']; omega
    · rw [Int.mul_comm c' b, Int.mul_comm c b']; omega)
  simpa using this
theorem TkOk.noL {T : Tk} (h : TkOk T) : D.noLL T := by
  obtain ⟨a, b, c, rfl, _⟩ := h
  simp only [D.noLL, D.noL, and_self]
/-- rounds that are multiples of one another are the same -/
theorem rd_uniq {m n : Nat} {r r' : R4} (h : Rd m r) (h' : Rd n r') {g g' : Int} (g0 : g ≠ 0) (g0' : g' ≠ 0) (e1 : g * r.1 = g' * r'.1) (e2 : g * r.2.1 = g' * r'.2.1) (e3 : g * r.2.2.1 = g' * r'.2.2.1) (e4 : g * r.2.2.2 = g' * r'.2.2.2) : r = r' := by
  have fz : ∀ (c : Int) (ns : List Int), c ≠ 0 → fnz (ns.map (c * ·)) = c * fnz ns := fun c ns hc => by
    induction ns with
    | nil => simp [fnz]
    | cons x xs ih =>
      rw [List.map_cons]
      unfold fnz
      by_cases q : x = 0
      · rw [if_pos q, if_pos (by rw [q, Int.mul_zero])]; exact ih
      · rw [if_neg q, if_neg (Int.mul_ne_zero hc q)]
  have e : [r.1, r.2.1, r.2.2.1, r.2.2.2].map (g * ·) = [r'.1, r'.2.1, r'.2.2.1, r'.2.2.2].map (g' * ·) := by simp only [List.map_cons, List.map_nil, e1, e2, e3, e4]
  have f := fz g [r.1, r.2.1, r.2.2.1, r.2.2.2] g0
  rw [e, fz g' _ g0'] at f
  have u := h.up
  have u' := h'.up
  have key : ∀ {a b : Int}, 0 < a → 0 < b → a * r.1 = b * r'.1 → a * r.2.1 = b * r'.2.1 → a * r.2.2.1 = b * r'.2.2.1 → a * r.2.2.2 = b * r'.2.2.2 → r = r' := fun {a b} ha hb q1 q2 q3 q4 => by
    have := gcd_uniq ha hb h.one h'.one (show [r.1, r.2.1, r.2.2.1, r.2.2.2].map (a * ·) = [r'.1, r'.2.1, r'.2.2.1, r'.2.2.2].map (b * ·) by simp only [List.map_cons, List.map_nil, q1, q2, q3, q4])
    obtain ⟨_, _, _, _⟩ := r
    obtain ⟨_, _, _, _⟩ := r'
    simpa using this
  rcases Int.lt_or_gt_of_ne g0 with c | c
  · have c' : g' < 0 := by
      rcases Int.lt_or_gt_of_ne g0' with d | d
      · exact d
      · have := Int.mul_pos d u'; have := Int.mul_neg_of_neg_of_pos c u; omega
    exact key (a := -g) (b := -g') (by omega) (by omega) (by rw [Int.neg_mul, Int.neg_mul, e1]) (by rw [Int.neg_mul, Int.neg_mul, e2]) (by rw [Int.neg_mul, Int.neg_mul, e3]) (by rw [Int.neg_mul, Int.neg_mul, e4])
  · have c' : 0 < g' := by
      rcases Int.lt_or_gt_of_ne g0' with d | d
      · have := Int.mul_neg_of_neg_of_pos d u'; have := Int.mul_pos c u; omega
      · exact d
    exact key c c' e1 e2 e3 e4
def w4 (p : P3) : R4 := (p.1 * p.1 + p.2.1 * p.2.1, p.1 * p.2.2, p.2.1 * p.2.2, p.2.2 * p.2.2)
def mnr (a b c d : Int) : Int := a * d - b * c
def dt3 (a b c d e f g h i : Int) : Int := a * mnr e f h i - b * mnr d f g i + c * mnr d e g h
def cr4 (x y z : R4) : R4 := (dt3 x.2.1 x.2.2.1 x.2.2.2 y.2.1 y.2.2.1 y.2.2.2 z.2.1 z.2.2.1 z.2.2.2, -dt3 x.1 x.2.2.1 x.2.2.2 y.1 y.2.2.1 y.2.2.2 z.1 z.2.2.1 z.2.2.2,
  dt3 x.1 x.2.1 x.2.2.2 y.1 y.2.1 y.2.2.2 z.1 z.2.1 z.2.2.2, -dt3 x.1 x.2.1 x.2.2.1 y.1 y.2.1 y.2.2.1 z.1 z.2.1 z.2.2.1)
theorem cr4_swap (x y z : R4) : cr4 y x z = (-(cr4 x y z).1, -(cr4 x y z).2.1, -(cr4 x y z).2.2.1, -(cr4 x y z).2.2.2) := by
  simp only [cr4, dt3, mnr, Prod.mk.injEq]
  refine ⟨?_, ?_, ?_, ?_⟩ <;> grind
theorem sz_mnr {n : Nat} {a b c d : Int} (h1 : Sz n a) (h2 : Sz n b) (h3 : Sz n c) (h4 : Sz n d) : Sz (2 * n + 1) (mnr a b c d) := ((h1.mul h4).sub (h2.mul h3)).mono (by omega)
structure S4 (n : Nat) (r : R4) : Prop where
  s1 : Sz n r.1
  s2 : Sz n r.2.1
  s3 : Sz n r.2.2.1
  s4 : Sz n r.2.2.2
theorem w_minor {T : Tk} {xs ys : List D} {i j : Nat} {a b c d : Int} {n : Nat} {k : KD} (h1 : xs[i]? = some (.int a)) (h2 : xs[j]? = some (.int b)) (h3 : ys[i]? = some (.int c)) (h4 : ys[j]? = some (.int d))
    (s1 : Sz n a) (s2 : Sz n b) (s3 : Sz n c) (s4 : Sz n d) (hn : n ≤ 100000) (h : k (.int (mnr a b c d)) T) : sm_minor [.val (.tup xs), .val (.tup ys), .val (.tup [.int i, .int j])] T k := by
  rw [e_minor, b_minor]
  walk_at "ev"
  simp only [atI_nat', h1, h2, h3, h4, ixR_some]
  walk_at "ev"
  exact ⟨s1.mulOk s4 (by omega) (by omega), s2.mulOk s3 (by omega) (by omega), h⟩
theorem w_determinant_of {T : Tk} {x y z : List D} {i j l : Nat} {a b c d e f g q o : Int} {n : Nat} {k : KD} (h1 : x[i]? = some (.int a)) (h2 : x[j]? = some (.int b)) (h3 : x[l]? = some (.int c)) (h4 : y[i]? = some (.int d)) (h5 : y[j]? = some (.int e)) (h6 : y[l]? = some (.int f))
    (h7 : z[i]? = some (.int g)) (h8 : z[j]? = some (.int q)) (h9 : z[l]? = some (.int o))
    (s1 : Sz n a) (s2 : Sz n b) (s3 : Sz n c) (s4 : Sz n d) (s5 : Sz n e) (s6 : Sz n f) (s7 : Sz n g) (s8 : Sz n q) (s9 : Sz n o) (hn : n ≤ 50000) (h : k (.int (dt3 a b c d e f g q o)) T) : sm_determinant_of [.val (.tup x), .val (.tup y), .val (.tup z), .val (.tup [.int i, .int j, .int l])] T k := by
  rw [e_determinant_of, b_determinant_of]
  walk_at "ev"
  simp only [atI_nat', h1, h2, h3, ixR_some]
  walk_at "ev"
  refine w_minor h5 h6 h8 h9 s5 s6 s8 s9 (by omega) ?_
  walk_at "ev"
  refine ⟨s1.mulOk (sz_mnr s5 s6 s8 s9) (by omega) (by omega), ?_⟩
  refine w_minor h4 h6 h7 h9 s4 s6 s7 s9 (by omega) ?_
  walk_at "ev"
  refine ⟨s2.mulOk (sz_mnr s4 s6 s7 s9) (by omega) (by omega), ?_⟩
  refine w_minor h4 h5 h7 h8 s4 s5 s7 s8 (by omega) ?_
  walk_at "ev"
  exact ⟨s3.mulOk (sz_mnr s4 s5 s7 s8) (by omega) (by omega), h⟩

theorem w_row_across {T : Tk} {n : Nat} {x y z : R4} {k : KD} (hx : S4 n x) (hy : S4 n y) (hz : S4 n z) (hn : n ≤ 3000) (h : ∀ r : R4, r = cr4 x y z → k (.tup [.int r.1, .int r.2.1, .int r.2.2.1, .int r.2.2.2]) T) :
    sm_row_across [.val (.tup [.int x.1, .int x.2.1, .int x.2.2.1, .int x.2.2.2]), .val (.tup [.int y.1, .int y.2.1, .int y.2.2.1, .int y.2.2.2]), .val (.tup [.int z.1, .int z.2.1, .int z.2.2.1, .int z.2.2.2])] T k := by
  rw [e_row_across, b_row_across]
  walk_at "evn"
  refine ⟨lit_mul (by decide), ?_⟩
  refine w_determinant_of (i := 1) (j := 2) (l := 3) (n := n) rfl rfl rfl rfl rfl rfl rfl rfl rfl hx.s2 hx.s3 hx.s4 hy.s2 hy.s3 hy.s4 hz.s2 hz.s3 hz.s4 (by omega) ?_
  walk_at "evn"
  refine ⟨lit_mul (by decide), lit_mul (by decide), ?_⟩
  refine w_determinant_of (i := 0) (j := 2) (l := 3) (n := n) rfl rfl rfl rfl rfl rfl rfl rfl rfl hx.s1 hx.s3 hx.s4 hy.s1 hy.s3 hy.s4 hz.s1 hz.s3 hz.s4 (by omega) ?_
  walk_at "evn"
  refine ⟨lit_mul (by decide), lit_mul (by decide), ?_⟩
  refine w_determinant_of (i := 0) (j := 1) (l := 3) (n := n) rfl rfl rfl rfl rfl rfl rfl rfl rfl hx.s1 hx.s2 hx.s4 hy.s1 hy.s2 hy.s4 hz.s1 hz.s2 hz.s4 (by omega) ?_
  walk_at "evn"
  refine ⟨lit_mul (by decide), lit_mul (by decide), ?_⟩
  refine w_determinant_of (i := 0) (j := 1) (l := 2) (n := n) rfl rfl rfl rfl rfl rfl rfl rfl rfl hx.s1 hx.s2 hx.s3 hy.s1 hy.s2 hy.s3 hz.s1 hz.s2 hz.s3 (by omega) ?_
  walk_at "evn"
  exact ⟨lit_mul (by decide), h _ rfl⟩

theorem lite_rw {n : Nat} {r : R4} (h : Rw n r) (l : n ≤ 1900) : (D.tup [.int r.1, .int r.2.1, .int r.2.2.1, .int r.2.2.2]).lite := lite_tup (liteL_cons (h.s1.lite l) (liteL_cons (h.s2.lite l) (liteL_cons (h.s3.lite l) (liteL_cons (h.s4.lite l) liteL_nil))))
/-- the round through three places -/
structure Thr (r : R4) (p q s : P3) : Prop where
  ex : ∃ g : Int, g ≠ 0 ∧ (cr4 (w4 p) (w4 q) (w4 s)).1 = g * r.1 ∧ (cr4 (w4 p) (w4 q) (w4 s)).2.1 = g * r.2.1 ∧ (cr4 (w4 p) (w4 q) (w4 s)).2.2.1 = g * r.2.2.1 ∧ (cr4 (w4 p) (w4 q) (w4 s)).2.2.2 = g * r.2.2.2
theorem Thr.swap {r : R4} {p q s : P3} (h : Thr r p q s) : Thr r q p s := by
  obtain ⟨g, g0, e1, e2, e3, e4⟩ := h.ex
  refine ⟨-g, by omega, ?_⟩
  rw [cr4_swap]
  simp only [e1, e2, e3, e4, Int.neg_mul, and_self]
theorem Thr.uniq {m n : Nat} {r r' : R4} {p q s : P3} (h : Thr r p q s) (h' : Thr r' p q s) (hr : Rd m r) (hr' : Rd n r') : r = r' := by
  obtain ⟨g, g0, e1, e2, e3, e4⟩ := h.ex
  obtain ⟨g', g0', f1, f2, f3, f4⟩ := h'.ex
  exact rd_uniq hr hr' g0 g0' (e1.symm.trans f1) (e2.symm.trans f2) (e3.symm.trans f3) (e4.symm.trans f4)
theorem Thr.line {r : R4} {p q s : P3} (h : Thr r p q s) : r.1 = 0 ↔ p.2.2 * q.2.2 * s.2.2 * (p.1 * (q.2.1 * s.2.2 - s.2.1 * q.2.2) - p.2.1 * (q.1 * s.2.2 - s.1 * q.2.2) + p.2.2 * (q.1 * s.2.1 - s.1 * q.2.1)) = 0 := by
  obtain ⟨g, g0, e1, _, _, _⟩ := h.ex
  have e : (cr4 (w4 p) (w4 q) (w4 s)).1 = p.2.2 * q.2.2 * s.2.2 * (p.1 * (q.2.1 * s.2.2 - s.2.1 * q.2.2) - p.2.1 * (q.1 * s.2.2 - s.1 * q.2.2) + p.2.2 * (q.1 * s.2.1 - s.1 * q.2.1)) := by
    simp only [cr4, dt3, mnr, w4]; grind
  rw [← e, e1]
  constructor
  · intro z; rw [z, Int.mul_zero]
  · intro z; exact (Int.mul_eq_zero.mp z).resolve_left g0
theorem Rw.s4' {n : Nat} {r : R4} (h : Rw n r) : S4 n r := ⟨h.s1, h.s2, h.s3, h.s4⟩
theorem PlQ.cz {n : Nat} {p : P3} {u v : Rat} (h : PlQ n p u v) (l : n ≤ 100000) : Cz 100000 (p.1, p.2.1) := ⟨h.s1.mono l, h.s2.mono l⟩
theorem PlQ.nz {n : Nat} {q : P3} {u v : Rat} (h : PlQ n q u v) (h0 : ¬(q.1 = 0 ∧ q.2.1 = 0)) : u * u + v * v ≠ 0 := by
  have c := cnrm_pos (w := (q.1, q.2.1)) h0
  unfold cnrm at c
  simp only at c
  have e1 := h.e1
  have e2 := h.e2
  have e : ((q.1 * q.1 + q.2.1 * q.2.1 : Int) : Rat) = (u * u + v * v) * (q.2.2 * q.2.2 : Rat) := by push_cast; grind
  intro z
  rw [z] at e
  have : ((q.1 * q.1 + q.2.1 * q.2.1 : Int) : Rat) = ((0 : Int) : Rat) := by rw [e]; push_cast; grind
  have := cast_inj this
  omega
/-- q is the place of z over w -/
structure HP (n : Nat) (q : P3) (z w : Cx2) : Prop where
  pt : Pt n q
  e1 : q.1 * w.1 - q.2.1 * w.2 = q.2.2 * z.1
  e2 : q.1 * w.2 + q.2.1 * w.1 = q.2.2 * z.2
  nz : ¬((z.1 = 0 ∧ z.2 = 0) ∧ (w.1 = 0 ∧ w.2 = 0))
theorem HP.mono {m n : Nat} {q : P3} {z w : Cx2} (h : HP m q z w) (l : m ≤ n) : HP n q z w := ⟨h.pt.mono l, h.e1, h.e2, h.nz⟩
theorem cx_norm {a b c d : Int} (h : ¬(c = 0 ∧ d = 0)) (e1 : a * c - b * d = 0) (e2 : a * d + b * c = 0) : a = 0 ∧ b = 0 := by
  have n0 : c * c + d * d ≠ 0 := fun z => h (two_sq z)
  constructor
  · have : a * (c * c + d * d) = 0 := by
      have : a * (c * c + d * d) = (a * c - b * d) * c + (a * d + b * c) * d := by grind
      rw [this, e1, e2]; simp
    exact (Int.mul_eq_zero.mp this).resolve_right n0
  · have : b * (c * c + d * d) = 0 := by
      have : b * (c * c + d * d) = (a * d + b * c) * c - (a * c - b * d) * d := by grind
      rw [this, e1, e2]; simp
    exact (Int.mul_eq_zero.mp this).resolve_right n0
theorem HP.far {n : Nat} {q : P3} {z w : Cx2} (h : HP n q z w) : q.2.2 = 0 ↔ (w.1 = 0 ∧ w.2 = 0) := by
  constructor
  · intro e
    have := h.pt.far e
    have e1 := h.e1
    have e2 := h.e2
    rw [this] at e1 e2
    simp only [Int.one_mul, Int.zero_mul, Int.sub_zero, Int.add_zero] at e1 e2
    exact ⟨e1, e2⟩
  · rintro ⟨w1, w2⟩
    have e1 := h.e1
    have e2 := h.e2
    rw [w1, w2, Int.mul_zero, Int.mul_zero] at e1 e2
    by_cases r : q.2.2 = 0
    · exact r
    · exfalso
      apply h.nz
      refine ⟨⟨?_, ?_⟩, w1, w2⟩
      · exact (Int.mul_eq_zero.mp (by simpa using e1.symm)).resolve_left r
      · exact (Int.mul_eq_zero.mp (by simpa using e2.symm)).resolve_left r
/-- the same quotient -/
theorem HP.tr {n : Nat} {q : P3} {z w z' w' : Cx2} (h : HP n q z w) (nz : ¬((z'.1 = 0 ∧ z'.2 = 0) ∧ (w'.1 = 0 ∧ w'.2 = 0))) (e1 : z.1 * w'.1 - z.2 * w'.2 = z'.1 * w.1 - z'.2 * w.2) (e2 : z.1 * w'.2 + z.2 * w'.1 = z'.1 * w.2 + z'.2 * w.1) : HP n q z' w' := by
  have h1 := h.e1
  have h2 := h.e2
  by_cases w0 : w.1 = 0 ∧ w.2 = 0
  · have r := h.far.mpr w0
    have qf := h.pt.far r
    obtain ⟨w1, w2⟩ := w0
    rw [w1, w2] at e1 e2
    simp only [Int.mul_zero, Int.sub_zero, Int.add_zero] at e1 e2
    have z0 : ¬(z.1 = 0 ∧ z.2 = 0) := fun z0 => h.nz ⟨z0, w1, w2⟩
    have := cx_norm (a := w'.1) (b := w'.2) z0 (by rw [Int.mul_comm w'.1, Int.mul_comm w'.2]; exact e1) (by rw [Int.mul_comm w'.1, Int.mul_comm w'.2]; omega)
    refine ⟨h.pt, ?_, ?_, nz⟩
    · rw [qf, this.1, this.2]; simp
    · rw [qf, this.1, this.2]; simp
  · refine ⟨h.pt, ?_, ?_, nz⟩
    · have k := cx_norm (a := q.1 * w'.1 - q.2.1 * w'.2 - q.2.2 * z'.1) (b := q.1 * w'.2 + q.2.1 * w'.1 - q.2.2 * z'.2) w0 (by grind) (by grind)
      have := k.1
      omega
    · have k := cx_norm (a := q.1 * w'.1 - q.2.1 * w'.2 - q.2.2 * z'.1) (b := q.1 * w'.2 + q.2.1 * w'.1 - q.2.2 * z'.2) w0 (by grind) (by grind)
      have := k.2
      omega
theorem HP.self {n : Nat} {q : P3} (h : Pt n q) : HP n q (q.1, q.2.1) (q.2.2, 0) := by
  refine ⟨h, by simp only [Int.mul_zero, Int.sub_zero]; exact Int.mul_comm _ _, by simp only [Int.mul_zero, Int.zero_add]; exact Int.mul_comm _ _, ?_⟩
  rintro ⟨⟨a, b⟩, c, _⟩
  simp only at a b c
  have := h.far c
  rw [this] at a
  simp at a
theorem HP.uniq {m n : Nat} {q q' : P3} {z w : Cx2} (h : HP m q z w) (h' : HP n q' z w) : q = q' := by
  refine dd_zero h.pt h'.pt ?_
  have a1 := h.e1
  have a2 := h.e2
  have b1 := h'.e1
  have b2 := h'.e2
  by_cases w0 : w.1 = 0 ∧ w.2 = 0
  · have r := h.far.mpr w0
    have r' := h'.far.mpr w0
    unfold dd
    rw [r, r']
    simp
  · have k := cx_norm (a := q.1 * q'.2.2 - q'.1 * q.2.2) (b := q.2.1 * q'.2.2 - q'.2.1 * q.2.2) w0 (by grind) (by grind)
    unfold dd
    rw [k.1, k.2]
    rfl
def jn (r x : R4) : Int := r.2.1 * x.2.1 + r.2.2.1 * x.2.2.1 - 2 * (r.1 * x.2.2.2 + x.1 * r.2.2.2)
def df1 (p q : P3) : Int := p.1 * q.2.2 - q.1 * p.2.2
def df2 (p q : P3) : Int := p.2.1 * q.2.2 - q.2.1 * p.2.2
def ui (p q r s : P3) : Int := df1 p r * df2 q s + df2 p r * df1 q s
theorem jn_comm (r x : R4) : jn r x = jn x r := by unfold jn; grind
theorem jn_self (r : R4) : jn r r = bnd r := by unfold jn bnd; grind
/-- complex numbers with whole parts, as a ring -/
structure Gi where
  re : Int
  im : Int
theorem Gi.ext' {a b : Gi} (h : a.re = b.re) (q : a.im = b.im) : a = b := by
  cases a; cases b; simp only at h q; subst h q; rfl
def Gi.npw (a : Gi) : Nat → Gi
  | 0 => ⟨1, 0⟩
  | n + 1 => ⟨(Gi.npw a n).re * a.re - (Gi.npw a n).im * a.im, (Gi.npw a n).re * a.im + (Gi.npw a n).im * a.re⟩
instance : Add Gi := ⟨fun a b => ⟨a.re + b.re, a.im + b.im⟩⟩
instance : Mul Gi := ⟨fun a b => ⟨a.re * b.re - a.im * b.im, a.re * b.im + a.im * b.re⟩⟩
instance : Neg Gi := ⟨fun a => ⟨-a.re, -a.im⟩⟩
instance : Sub Gi := ⟨fun a b => ⟨a.re - b.re, a.im - b.im⟩⟩
instance : NatCast Gi := ⟨fun n => ⟨n, 0⟩⟩
instance : IntCast Gi := ⟨fun n => ⟨n, 0⟩⟩
instance (n : Nat) : OfNat Gi n := ⟨⟨n, 0⟩⟩
instance : SMul Nat Gi := ⟨fun n a => (n : Gi) * a⟩
instance : SMul Int Gi := ⟨fun n a => (n : Gi) * a⟩
instance : HPow Gi Nat Gi := ⟨Gi.npw⟩
theorem Gi.add_re (a b : Gi) : (a + b).re = a.re + b.re := rfl
theorem Gi.add_im (a b : Gi) : (a + b).im = a.im + b.im := rfl
theorem Gi.sub_re (a b : Gi) : (a - b).re = a.re - b.re := rfl
theorem Gi.sub_im (a b : Gi) : (a - b).im = a.im - b.im := rfl
theorem Gi.mul_re (a b : Gi) : (a * b).re = a.re * b.re - a.im * b.im := rfl
theorem Gi.mul_im (a b : Gi) : (a * b).im = a.re * b.im + a.im * b.re := rfl
theorem Gi.neg_re (a : Gi) : (-a).re = -a.re := rfl
theorem Gi.neg_im (a : Gi) : (-a).im = -a.im := rfl
theorem Gi.zero_re : (0 : Gi).re = 0 := rfl
theorem Gi.zero_im : (0 : Gi).im = 0 := rfl
theorem Gi.one_re : (1 : Gi).re = 1 := rfl
theorem Gi.one_im : (1 : Gi).im = 0 := rfl
theorem Gi.eq0 {a : Gi} : (a.re = 0 ∧ a.im = 0) ↔ a = 0 := ⟨fun ⟨x, y⟩ => Gi.ext' x y, fun h => by rw [h]; exact ⟨rfl, rfl⟩⟩
instance : Lean.Grind.CommRing Gi where
  add_zero a := Gi.ext' (Int.add_zero _) (Int.add_zero _)
  add_comm a b := Gi.ext' (Int.add_comm _ _) (Int.add_comm _ _)
  add_assoc a b c := Gi.ext' (Int.add_assoc _ _ _) (Int.add_assoc _ _ _)
  mul_assoc a b c := Gi.ext' (by simp only [Gi.mul_re, Gi.mul_im]; grind) (by simp only [Gi.mul_re, Gi.mul_im]; grind)
  mul_one a := Gi.ext' (by simp only [Gi.mul_re, Gi.one_re, Gi.one_im]; omega) (by simp only [Gi.mul_im, Gi.one_re, Gi.one_im]; omega)
  one_mul a := Gi.ext' (by simp only [Gi.mul_re, Gi.one_re, Gi.one_im]; omega) (by simp only [Gi.mul_im, Gi.one_re, Gi.one_im]; omega)
  right_distrib a b c := Gi.ext' (by simp only [Gi.mul_re, Gi.add_re, Gi.add_im]; grind) (by simp only [Gi.mul_im, Gi.add_re, Gi.add_im]; grind)
  mul_zero a := Gi.ext' (by simp only [Gi.mul_re, Gi.zero_re, Gi.zero_im]; omega) (by simp only [Gi.mul_im, Gi.zero_re, Gi.zero_im]; omega)
  left_distrib a b c := Gi.ext' (by simp only [Gi.mul_re, Gi.add_re, Gi.add_im]; grind) (by simp only [Gi.mul_im, Gi.add_re, Gi.add_im]; grind)
  zero_mul a := Gi.ext' (by simp only [Gi.mul_re, Gi.zero_re, Gi.zero_im]; omega) (by simp only [Gi.mul_im, Gi.zero_re, Gi.zero_im]; omega)
  pow_zero a := rfl
  pow_succ a n := rfl
  ofNat_succ n := Gi.ext' (by show ((n + 1 : Nat) : Int) = (n : Int) + 1; omega) rfl
  ofNat_eq_natCast n := rfl
  nsmul_eq_natCast_mul n a := rfl
  neg_add_cancel a := Gi.ext' (Int.add_left_neg _) (Int.add_left_neg _)
  sub_eq_add_neg a b := Gi.ext' Int.sub_eq_add_neg Int.sub_eq_add_neg
  neg_zsmul i a := Gi.ext' (by show (-i) * a.re - 0 * a.im = -(i * a.re - 0 * a.im); grind) (by show (-i) * a.im + 0 * a.re = -(i * a.im + 0 * a.re); grind)
  zsmul_natCast_eq_nsmul n a := rfl
  intCast_ofNat n := rfl
  intCast_neg i := Gi.ext' rfl (by show (0 : Int) = -0; rfl)
  mul_comm a b := Gi.ext' (by simp only [Gi.mul_re]; grind) (by simp only [Gi.mul_im]; grind)
def Gi.cj (a : Gi) : Gi := ⟨a.re, -a.im⟩
def Gi.nm (a : Gi) : Int := a.re * a.re + a.im * a.im
theorem Gi.cj_add (a b : Gi) : (a + b).cj = a.cj + b.cj := Gi.ext' rfl (by show -(a.im + b.im) = -a.im + -b.im; omega)
theorem Gi.cj_sub (a b : Gi) : (a - b).cj = a.cj - b.cj := Gi.ext' rfl (by show -(a.im - b.im) = -a.im - -b.im; omega)
theorem Gi.cj_neg (a : Gi) : (-a).cj = -a.cj := rfl
theorem Gi.cj_mul (a b : Gi) : (a * b).cj = a.cj * b.cj := Gi.ext' (by show a.re * b.re - a.im * b.im = a.re * b.re - -a.im * -b.im; grind) (by show -(a.re * b.im + a.im * b.re) = a.re * -b.im + -a.im * b.re; grind)
theorem Gi.cj_cj (a : Gi) : a.cj.cj = a := Gi.ext' rfl (Int.neg_neg _)
theorem Gi.nm_mul (a b : Gi) : (a * b).nm = a.nm * b.nm := by unfold Gi.nm; simp only [Gi.mul_re, Gi.mul_im]; grind
theorem Gi.nm_cj (a : Gi) : a.cj.nm = a.nm := by unfold Gi.nm Gi.cj; simp only; grind
theorem Gi.nm_nn (a : Gi) : 0 ≤ a.nm := by
  have := mul_self_nonneg' a.re
  have := mul_self_nonneg' a.im
  unfold Gi.nm; omega
theorem Gi.nm_zero {a : Gi} (h : a.nm = 0) : a = 0 := by
  unfold Gi.nm at h
  have h1 := mul_self_nonneg' a.re
  have h2 := mul_self_nonneg' a.im
  refine Gi.ext' ?_ ?_
  · by_cases c : a.re = 0
    · exact c
    · have := imul_self_pos c; omega
  · by_cases c : a.im = 0
    · exact c
    · have := imul_self_pos c; omega
theorem Gi.nm_pos {a : Gi} (h : a ≠ 0) : 0 < a.nm := by
  rcases Int.lt_or_eq_of_le a.nm_nn with e | e
  · exact e
  · exact absurd (Gi.nm_zero e.symm) h
theorem Gi.nm_of_zero : (0 : Gi).nm = 0 := rfl
theorem Gi.mul_zero' {a b : Gi} (h : a * b = 0) : a = 0 ∨ b = 0 := by
  have e := Gi.nm_mul a b
  rw [h, Gi.nm_of_zero] at e
  rcases Int.mul_eq_zero.mp e.symm with f | f
  · exact .inl (Gi.nm_zero f)
  · exact .inr (Gi.nm_zero f)
theorem Gi.mul_ne {a b : Gi} (h : a ≠ 0) (q : b ≠ 0) : a * b ≠ 0 := fun e => (Gi.mul_zero' e).elim h q
theorem Gi.cancel {a b c : Gi} (h : c ≠ 0) (e : c * a = c * b) : a = b := by
  have : c * (a - b) = 0 := by grind
  have := (Gi.mul_zero' this).resolve_left h
  grind
theorem Gi.cj_ne {a : Gi} (h : a ≠ 0) : a.cj ≠ 0 := fun e => h (by have := congrArg Gi.cj e; rw [Gi.cj_cj] at this; exact this)
instance : DecidableEq Gi := fun a b => if h : a.re = b.re ∧ a.im = b.im then .isTrue (Gi.ext' h.1 h.2) else .isFalse fun e => h (by rw [e]; exact ⟨rfl, rfl⟩)
/-- norms below 2 ^ n -/
def Nz (n : Nat) (a : Gi) : Prop := a.nm < 2 ^ n
theorem Nz.sz {n : Nat} {a : Gi} (h : Nz n a) : Sz n a.re ∧ Sz n a.im := by
  unfold Nz Gi.nm at h
  have h1 := mul_self_nonneg' a.re
  have h2 := mul_self_nonneg' a.im
  have key : ∀ x : Int, x * x < 2 ^ n → Sz n x := fun x hx => by
    have e : ((x.natAbs * x.natAbs : Nat) : Int) = x * x := Int.natAbs_mul_self' x ▸ (by push_cast; rfl)
    have e2 : x.natAbs * x.natAbs < 2 ^ n := by
      have : ((x.natAbs * x.natAbs : Nat) : Int) < ((2 ^ n : Nat) : Int) := by rw [e]; push_cast; exact hx
      exact_mod_cast this
    have : x.natAbs ≤ x.natAbs * x.natAbs := by
      rcases Nat.eq_zero_or_pos x.natAbs with z | z
      · rw [z]; exact Nat.le_refl _
      · exact Nat.le_mul_of_pos_left _ z
    unfold Sz
    omega
  exact ⟨key _ (by omega), key _ (by omega)⟩
theorem Nz.mono {m n : Nat} {a : Gi} (h : Nz m a) (l : m ≤ n) : Nz n a := by
  have : (2 : Int) ^ m ≤ 2 ^ n := by exact_mod_cast Nat.pow_le_pow_right (n := 2) (by decide) l
  unfold Nz at *
  omega
theorem Nz.cj {n : Nat} {a : Gi} (h : Nz n a) : Nz n a.cj := by unfold Nz at *; rw [Gi.nm_cj]; exact h
theorem Nz.dvd {n : Nat} {a b : Gi} (hb : b ≠ 0) (h : Nz n (b * a)) : Nz n a := by
  unfold Nz at *
  rw [Gi.nm_mul] at h
  have h1 := Gi.nm_pos hb
  have h2 := a.nm_nn
  have : a.nm ≤ b.nm * a.nm := by
    have := Int.mul_le_mul_of_nonneg_right (show 1 ≤ b.nm by omega) h2
    omega
  omega
theorem Nz.mul {m n : Nat} {a b : Gi} (h : Nz m a) (q : Nz n b) : Nz (m + n) (a * b) := by
  unfold Nz at *
  rw [Gi.nm_mul, Int.pow_add]
  generalize (2 : Int) ^ m = A at *
  generalize (2 : Int) ^ n = B at *
  have ha := a.nm_nn
  have hb := b.nm_nn
  have h1 := Int.mul_le_mul (show a.nm ≤ A - 1 by omega) (show b.nm ≤ B - 1 by omega) hb (by omega)
  have h2 : (A - 1) * (B - 1) = A * B - A - B + 1 := by grind
  omega
theorem Nz.add {n : Nat} {a b : Gi} (h : Nz n a) (q : Nz n b) : Nz (n + 2) (a + b) := by
  unfold Nz at *
  have e : (a + b).nm ≤ 2 * a.nm + 2 * b.nm := by
    have d : 2 * a.nm + 2 * b.nm - (a + b).nm = (a - b).nm := by unfold Gi.nm; simp only [Gi.add_re, Gi.add_im, Gi.sub_re, Gi.sub_im]; grind
    have := (a - b).nm_nn
    omega
  have p : (2 : Int) ^ (n + 2) = 4 * 2 ^ n := by rw [Int.pow_add]; omega
  omega
theorem Nz.neg {n : Nat} {a : Gi} (h : Nz n a) : Nz n (-a) := by
  unfold Nz at *
  have : (-a).nm = a.nm := by unfold Gi.nm; simp only [Gi.neg_re, Gi.neg_im]; grind
  omega
/-- g is a greatest common divisor of a and b -/
structure G2 (g a b : Gi) : Prop where
  l : ∃ x, a = x * g
  r : ∃ x, b = x * g
  s : ∃ u v, g = u * a + v * b
theorem G2.zero (a : Gi) : G2 a a 0 := ⟨⟨1, by grind⟩, ⟨0, by grind⟩, ⟨1, 0, by grind⟩⟩
theorem G2.step {g a b q : Gi} (h : G2 g b (a - q * b)) : G2 g a b := by
  obtain ⟨⟨x, hx⟩, ⟨y, hy⟩, u, v, hs⟩ := h
  exact ⟨⟨y + q * x, by grind⟩, ⟨x, hx⟩, v, u - v * q, by grind⟩
def nearI (a n : Int) : Int := (2 * a + n) / (2 * n)
theorem nearI_ok {a n : Int} (h : 0 < n) : -n ≤ 2 * (a - nearI a n * n) ∧ 2 * (a - nearI a n * n) ≤ n := by
  unfold nearI
  have e := Int.mul_ediv_add_emod (2 * a + n) (2 * n)
  have l := Int.emod_nonneg (2 * a + n) (show 2 * n ≠ 0 by omega)
  have r := Int.emod_lt_of_pos (2 * a + n) (show 0 < 2 * n by omega)
  generalize (2 * a + n) / (2 * n) = q at *
  generalize (2 * a + n) % (2 * n) = t at *
  have : 2 * (q * n) = 2 * n * q := by grind
  constructor <;> grind
def nearG (a b : Gi) : Gi := ⟨nearI (a * b.cj).re b.nm, nearI (a * b.cj).im b.nm⟩
theorem sq_half {x n : Int} (h1 : -n ≤ 2 * x) (h2 : 2 * x ≤ n) : 4 * (x * x) ≤ n * n := by
  have := Int.mul_nonneg (show 0 ≤ n - 2 * x by omega) (show 0 ≤ n + 2 * x by omega)
  have : (n - 2 * x) * (n + 2 * x) = n * n - 4 * (x * x) := by grind
  omega
theorem nearG_nm {a b : Gi} (h : b ≠ 0) : 2 * (a - nearG a b * b).nm ≤ b.nm := by
  have p := Gi.nm_pos h
  have e : (a - nearG a b * b) * b.cj = ⟨(a * b.cj).re - nearI (a * b.cj).re b.nm * b.nm, (a * b.cj).im - nearI (a * b.cj).im b.nm * b.nm⟩ := by
    have f : b * b.cj = ⟨b.nm, 0⟩ := Gi.ext' (by show b.re * b.re - b.im * -b.im = b.re * b.re + b.im * b.im; grind) (by show b.re * -b.im + b.im * b.re = 0; grind)
    have g : (a - nearG a b * b) * b.cj = a * b.cj - nearG a b * (b * b.cj) := by grind
    rw [g, f]
    refine Gi.ext' ?_ ?_
    · simp only [Gi.sub_re, Gi.mul_re, nearG]; grind
    · simp only [Gi.sub_im, Gi.mul_im, nearG]; grind
  have m := Gi.nm_mul (a - nearG a b * b) b.cj
  rw [e, Gi.nm_cj] at m
  obtain ⟨h1, h2⟩ := nearI_ok (a := (a * b.cj).re) p
  obtain ⟨h3, h4⟩ := nearI_ok (a := (a * b.cj).im) p
  have q1 := sq_half h1 h2
  have q2 := sq_half h3 h4
  have : 4 * ((a - nearG a b * b).nm * b.nm) ≤ 2 * (b.nm * b.nm) := by
    have m' : (a - nearG a b * b).nm * b.nm = ((a * b.cj).re - nearI (a * b.cj).re b.nm * b.nm) * ((a * b.cj).re - nearI (a * b.cj).re b.nm * b.nm) + ((a * b.cj).im - nearI (a * b.cj).im b.nm * b.nm) * ((a * b.cj).im - nearI (a * b.cj).im b.nm * b.nm) := m.symm
    omega
  have : (2 * (a - nearG a b * b).nm) * b.nm ≤ b.nm * b.nm := by
    have : (2 * (a - nearG a b * b).nm) * b.nm = 2 * ((a - nearG a b * b).nm * b.nm) := by grind
    omega
  exact Int.le_of_mul_le_mul_right this p
theorem G2.nz {g a b : Gi} (h : G2 g a b) (z : g = 0) : a = 0 ∧ b = 0 := by
  obtain ⟨⟨x, hx⟩, ⟨y, hy⟩, _⟩ := h
  subst z
  constructor <;> grind
abbrev G4 := Gi × Gi × Gi × Gi
/-- g is a greatest common divisor of four numbers -/
structure GD (g : Gi) (m : G4) : Prop where
  d1 : ∃ x, m.1 = x * g
  d2 : ∃ x, m.2.1 = x * g
  d3 : ∃ x, m.2.2.1 = x * g
  d4 : ∃ x, m.2.2.2 = x * g
  s : ∃ u v w t, g = u * m.1 + v * m.2.1 + w * m.2.2.1 + t * m.2.2.2
theorem gd_of {a b c d g1 g2 g3 g4 : Gi} (h1 : G2 g1 0 a) (h2 : G2 g2 g1 b) (h3 : G2 g3 g2 c) (h4 : G2 g4 g3 d) : GD g4 (a, b, c, d) := by
  obtain ⟨_, ⟨x1, e1⟩, u1, v1, s1⟩ := h1
  obtain ⟨⟨y2, f2⟩, ⟨x2, e2⟩, u2, v2, s2⟩ := h2
  obtain ⟨⟨y3, f3⟩, ⟨x3, e3⟩, u3, v3, s3⟩ := h3
  obtain ⟨⟨y4, f4⟩, ⟨x4, e4⟩, u4, v4, s4⟩ := h4
  have k2 : g2 = y3 * y4 * g4 := by rw [f3, f4]; grind
  have k1 : g1 = y2 * y3 * y4 * g4 := by rw [f2, k2]; grind
  refine ⟨⟨x1 * y2 * y3 * y4, ?_⟩, ⟨x2 * y3 * y4, ?_⟩, ⟨x3 * y4, ?_⟩, ⟨x4, e4⟩, u4 * u3 * u2 * v1, u4 * u3 * v2, u4 * v3, v4, ?_⟩
  · simp only; rw [e1, k1]; grind
  · simp only; rw [e2, k2]; grind
  · simp only; rw [e3, f4]; grind
  · simp only; rw [s4, s3, s2, s1]; grind
def fst4 (m : G4) : Gi := if m.1 ≠ 0 then m.1 else if m.2.1 ≠ 0 then m.2.1 else if m.2.2.1 ≠ 0 then m.2.2.1 else m.2.2.2
def scl (c : Gi) (m : G4) : G4 := (c * m.1, c * m.2.1, c * m.2.2.1, c * m.2.2.2)
theorem fst4_scl {c : Gi} (h : c ≠ 0) (m : G4) : fst4 (scl c m) = c * fst4 m := by
  have k : ∀ x : Gi, c * x ≠ 0 ↔ x ≠ 0 := fun x => ⟨fun e z => e (by rw [z]; grind), fun e => Gi.mul_ne h e⟩
  unfold fst4 scl
  simp only [k]
  split
  · rfl
  split
  · rfl
  split
  · rfl
  · rfl
/-- in the quarter -/
def Qf (a : Gi) : Prop := 0 < a.re ∧ 0 ≤ a.im
structure Mp (m : G4) : Prop where
  bez : ∃ u v w t, u * m.1 + v * m.2.1 + w * m.2.2.1 + t * m.2.2.2 = 1
  qf : Qf (fst4 m)
theorem unit_nm {s t : Gi} (h : s * t = 1) : s.nm = 1 := by
  have e := Gi.nm_mul s t
  rw [h] at e
  have e : s.nm * t.nm = 1 := e.symm
  have h1 := s.nm_nn
  have h2 := t.nm_nn
  have s0 : s.nm ≠ 0 := fun z => by rw [z, Int.zero_mul] at e; omega
  have t0 : t.nm ≠ 0 := fun z => by rw [z, Int.mul_zero] at e; omega
  have := Int.mul_le_mul_of_nonneg_left (show 1 ≤ t.nm by omega) h1
  omega
theorem unit_4 {s : Gi} (h : s.nm = 1) : (s.re = 1 ∧ s.im = 0) ∨ (s.re = -1 ∧ s.im = 0) ∨ (s.re = 0 ∧ s.im = 1) ∨ (s.re = 0 ∧ s.im = -1) := by
  unfold Gi.nm at h
  have h1 := mul_self_nonneg' s.re
  have h2 := mul_self_nonneg' s.im
  have k : ∀ x : Int, x * x ≤ 1 → x = 0 ∨ x = 1 ∨ x = -1 := fun x hx => by
    rcases Int.lt_trichotomy x 0 with f | f | f
    · by_cases g : x = -1
      · exact .inr (.inr g)
      · have := Int.mul_le_mul_of_nonneg_left (show 2 ≤ -x by omega) (show 0 ≤ -x by omega); rw [Int.neg_mul_neg] at this; omega
    · exact .inl f
    · by_cases g : x = 1
      · exact .inr (.inl g)
      · have := Int.mul_le_mul_of_nonneg_left (show 2 ≤ x by omega) (show 0 ≤ x by omega); omega
  rcases k s.re (by omega) with f | f | f <;> rcases k s.im (by omega) with g | g | g <;> rw [f, g] at h ⊢ <;> simp at h ⊢
theorem qf_unit {s f : Gi} (h : s.nm = 1) (q : Qf f) (q' : Qf (s * f)) : s = 1 := by
  unfold Qf at q q'
  rw [Gi.mul_re, Gi.mul_im] at q'
  rcases unit_4 h with ⟨a, b⟩ | ⟨a, b⟩ | ⟨a, b⟩ | ⟨a, b⟩ <;> rw [a, b] at q'
  · exact Gi.ext' a b
  · omega
  · omega
  · omega
/-- maps along one another are the same -/
theorem mp_uniq {m m' : G4} {c c' : Gi} (h : Mp m) (h' : Mp m') (c0 : c ≠ 0) (c0' : c' ≠ 0) (e : scl c m = scl c' m') : m = m' := by
  obtain ⟨⟨u, v, w, t, hb⟩, hq⟩ := h
  obtain ⟨⟨u', v', w', t', hb'⟩, hq'⟩ := h'
  have ef := fst4_scl c0 m
  rw [e, fst4_scl c0'] at ef
  obtain ⟨a, b, p, d⟩ := m
  obtain ⟨a', b', p', d'⟩ := m'
  unfold scl at e
  simp only [Prod.mk.injEq] at e hb hb'
  obtain ⟨e1, e2, e3, e4⟩ := e
  have k1 : c = c' * (u * a' + v * b' + w * p' + t * d') := by
    have : c = c * (u * a + v * b + w * p + t * d) := by rw [hb]; grind
    have e : c * (u * a + v * b + w * p + t * d) = u * (c * a) + v * (c * b) + w * (c * p) + t * (c * d) := by grind
    rw [this, e, e1, e2, e3, e4]; grind
  have k2 : c' = c * (u' * a + v' * b + w' * p + t' * d) := by
    have : c' = c' * (u' * a' + v' * b' + w' * p' + t' * d') := by rw [hb']; grind
    have e : c' * (u' * a' + v' * b' + w' * p' + t' * d') = u' * (c' * a') + v' * (c' * b') + w' * (c' * p') + t' * (c' * d') := by grind
    rw [this, e, ← e1, ← e2, ← e3, ← e4]; grind
  generalize u * a' + v * b' + w * p' + t * d' = s at k1
  generalize u' * a + v' * b + w' * p + t' * d = s' at k2
  have ss : s * s' = 1 := by
    refine Gi.cancel (c := c') c0' ?_
    have : c' * (s * s') = c * s' := by rw [k1]; grind
    rw [this, ← k2]; grind
  have ns := unit_nm ss
  have q1 : fst4 (a', b', p', d') = s * fst4 (a, b, p, d) := by
    refine Gi.cancel (c := c') c0' ?_
    rw [ef]
    have : c' * (s * fst4 (a, b, p, d)) = (c' * s) * fst4 (a, b, p, d) := by grind
    rw [this, ← k1]
  rw [q1] at hq'
  have s1 := qf_unit ns hq hq'
  have cc : c = c' := by rw [k1, s1]; grind
  rw [cc] at e1 e2 e3 e4
  rw [Gi.cancel c0' e1, Gi.cancel c0' e2, Gi.cancel c0' e3, Gi.cancel c0' e4]

def zG (q : P3) : Gi := ⟨q.1, q.2.1⟩
def rG (q : P3) : Gi := ⟨q.2.2, 0⟩
/-- q is the place of z over w -/
structure HG (n : Nat) (q : P3) (z w : Gi) : Prop where
  pt : Pt n q
  e : zG q * w = rG q * z
  nz : ¬(z = 0 ∧ w = 0)
theorem HG.hp {n : Nat} {q : P3} {z w : Gi} (h : HG n q z w) : HP n q (z.re, z.im) (w.re, w.im) := by
  have e := h.e
  have e1 := congrArg Gi.re e
  have e2 := congrArg Gi.im e
  simp only [Gi.mul_re, Gi.mul_im, zG, rG] at e1 e2
  exact ⟨h.pt, by simp only; omega, by simp only; omega, fun ⟨a, b⟩ => h.nz ⟨Gi.eq0.mp a, Gi.eq0.mp b⟩⟩
theorem HP.hg {n : Nat} {q : P3} {z w : Gi} (h : HP n q (z.re, z.im) (w.re, w.im)) : HG n q z w := by
  have e1 := h.e1
  have e2 := h.e2
  simp only at e1 e2
  refine ⟨h.pt, Gi.ext' ?_ ?_, fun ⟨a, b⟩ => h.nz ⟨Gi.eq0.mpr a, Gi.eq0.mpr b⟩⟩
  · simp only [Gi.mul_re, zG, rG]; omega
  · simp only [Gi.mul_im, zG, rG]; omega
theorem HG.uniq {m n : Nat} {q q' : P3} {z w : Gi} (h : HG m q z w) (h' : HG n q' z w) : q = q' := h.hp.uniq h'.hp
theorem HG.tr {n : Nat} {q : P3} {z w z' w' : Gi} (h : HG n q z w) (nz : ¬(z' = 0 ∧ w' = 0)) (e : z * w' = z' * w) : HG n q z' w' := by
  refine HP.hg (h.hp.tr (fun ⟨a, b⟩ => nz ⟨Gi.eq0.mp a, Gi.eq0.mp b⟩) ?_ ?_)
  · have := congrArg Gi.re e
    simpa only [Gi.mul_re] using this
  · have := congrArg Gi.im e
    simpa only [Gi.mul_im] using this
theorem HG.self {n : Nat} {q : P3} (h : Pt n q) : HG n q (zG q) (rG q) := HP.hg (HP.self h)
/-- two ways to write one place -/
theorem HG.cross {m n : Nat} {q : P3} {z w z' w' : Gi} (h : HG m q z w) (h' : HG n q z' w') : z * w' = z' * w := by
  have a := h.e
  have b := h'.e
  have s := (HG.self h.pt).nz
  by_cases r : rG q = 0
  · have z0 : zG q ≠ 0 := fun z0 => s ⟨z0, r⟩
    rw [r] at a b
    have w0 : w = 0 := (Gi.mul_zero' (a.trans (by grind))).resolve_left z0
    have w0' : w' = 0 := (Gi.mul_zero' (b.trans (by grind))).resolve_left z0
    rw [w0, w0']
    grind
  · refine Gi.cancel (c := rG q) r ?_
    have : rG q * (z * w') = (rG q * z) * w' := by grind
    have k : rG q * (z' * w) = (rG q * z') * w := by grind
    rw [this, k, ← a, ← b]
    grind
def dtG (m : G4) : Gi := m.1 * m.2.2.2 - m.2.1 * m.2.2.1
def apz (m : G4) (z w : Gi) : Gi := m.1 * z + m.2.1 * w
def apw (m : G4) (z w : Gi) : Gi := m.2.2.1 * z + m.2.2.2 * w
theorem ap_nz {m : G4} {z w : Gi} (d : dtG m ≠ 0) (h : ¬(z = 0 ∧ w = 0)) : ¬(apz m z w = 0 ∧ apw m z w = 0) := by
  rintro ⟨a, b⟩
  unfold apz at a
  unfold apw at b
  have k1 : dtG m * z = 0 := by
    have : dtG m * z = m.2.2.2 * (m.1 * z + m.2.1 * w) - m.2.1 * (m.2.2.1 * z + m.2.2.2 * w) := by unfold dtG; grind
    rw [this, a, b]; grind
  have k2 : dtG m * w = 0 := by
    have : dtG m * w = m.1 * (m.2.2.1 * z + m.2.2.2 * w) - m.2.2.1 * (m.1 * z + m.2.1 * w) := by unfold dtG; grind
    rw [this, a, b]; grind
  exact h ⟨(Gi.mul_zero' k1).resolve_left d, (Gi.mul_zero' k2).resolve_left d⟩
theorem HG.map {l n : Nat} {m : G4} {q t : P3} {z w : Gi} (d : dtG m ≠ 0) (h : HG l q z w) (ht : HG n t (apz m (zG q) (rG q)) (apw m (zG q) (rG q))) : HG n t (apz m z w) (apw m z w) := by
  refine ht.tr (ap_nz d h.nz) ?_
  have e := h.e
  have : apz m (zG q) (rG q) * apw m z w - apz m z w * apw m (zG q) (rG q) = dtG m * (zG q * w - rG q * z) := by unfold apz apw dtG; grind
  rw [e] at this
  have : apz m (zG q) (rG q) * apw m z w - apz m z w * apw m (zG q) (rG q) = 0 := by rw [this]; grind
  grind
def cjP (q : P3) : P3 := (q.1, -q.2.1, q.2.2)
theorem zG_cj (q : P3) : zG (cjP q) = (zG q).cj := rfl
theorem rG_cj (q : P3) : rG (cjP q) = rG q := rfl
theorem rG_self (q : P3) : (rG q).cj = rG q := Gi.ext' rfl (by show -(0 : Int) = 0; rfl)
theorem gcd_cj {a b c : Int} : gcdL 0 [a, -b, c] = gcdL 0 [a, b, c] := by
  unfold gcdL gcdL gcdL gcdL
  have : iGcd (iGcd 0 a) (-b) = iGcd (iGcd 0 a) b := by
    show ((Nat.gcd _ _ : Nat) : Int) = ((Nat.gcd _ _ : Nat) : Int)
    rw [Int.natAbs_neg]
  rw [this]
theorem Pt.cj {n : Nat} {q : P3} (h : Pt n q) : Pt n (cjP q) := by
  refine ⟨?_, (gcd_cj).trans h.one, h.s1, h.s2.neg, h.s3⟩
  rcases h.ok with ⟨a, b, c⟩ | c
  · exact .inl ⟨a, by show -q.2.1 = 0; omega, c⟩
  · exact .inr c
theorem HG.cj {n : Nat} {q : P3} {z w : Gi} (h : HG n q z w) : HG n (cjP q) z.cj w.cj := by
  refine ⟨h.pt.cj, ?_, fun ⟨a, b⟩ => h.nz ⟨?_, ?_⟩⟩
  · rw [zG_cj, rG_cj, ← Gi.cj_mul, h.e, Gi.cj_mul, rG_self]
  · have := congrArg Gi.cj a; rw [Gi.cj_cj] at this; exact this
  · have := congrArg Gi.cj b; rw [Gi.cj_cj] at this; exact this
/-- the first number, conjugate if the map is mirrored -/
def fl (f : Int) (z : Gi) : Gi := if f = 1 then z.cj else z
theorem fl_ne {f : Int} {z : Gi} (h : z ≠ 0) : fl f z ≠ 0 := by unfold fl; split; exact Gi.cj_ne h; exact h
/-- t is where the map leads q -/
def Led (n : Nat) (f : Int) (m : G4) (q t : P3) : Prop := HG n t (apz m (fl f (zG q)) (rG q)) (apw m (fl f (zG q)) (rG q))
theorem Led.uniq {l n : Nat} {f : Int} {m : G4} {q t t' : P3} (h : Led l f m q t) (h' : Led n f m q t') : t = t' := HG.uniq h h'
theorem Led.inj {l n a b : Nat} {f : Int} {m : G4} {q q' t : P3} (d : dtG m ≠ 0) (hq : Pt a q) (hq' : Pt b q') (h : Led l f m q t) (h' : Led n f m q' t) : q = q' := by
  have c := HG.cross h h'
  have k : dtG m * (fl f (zG q) * rG q' - fl f (zG q') * rG q) = 0 := by
    have : dtG m * (fl f (zG q) * rG q' - fl f (zG q') * rG q) = apz m (fl f (zG q)) (rG q) * apw m (fl f (zG q')) (rG q') - apz m (fl f (zG q')) (rG q') * apw m (fl f (zG q)) (rG q) := by unfold dtG apz apw; grind
    rw [this, c]; grind
  have k := (Gi.mul_zero' k).resolve_left d
  have k2 : zG q * rG q' - zG q' * rG q = 0 := by
    unfold fl at k
    split at k
    · have := congrArg Gi.cj k
      rw [Gi.cj_sub, Gi.cj_mul, Gi.cj_mul, Gi.cj_cj, Gi.cj_cj, rG_self, rG_self] at this
      exact this
    · exact k
  refine dd_zero hq hq' ?_
  have e1 := congrArg Gi.re k2
  have e2 := congrArg Gi.im k2
  simp only [Gi.sub_re, Gi.sub_im, Gi.mul_re, Gi.mul_im, zG, rG, Gi.zero_re, Gi.zero_im] at e1 e2
  unfold dd
  have f1 : q.1 * q'.2.2 - q'.1 * q.2.2 = 0 := by omega
  have f2 : q.2.1 * q'.2.2 - q'.2.1 * q.2.2 = 0 := by omega
  rw [f1, f2]
  rfl
/-- one matrix after another; the second one's conjugate if the first map is mirrored -/
def flm (f : Int) (m : G4) : G4 := (fl f m.1, fl f m.2.1, fl f m.2.2.1, fl f m.2.2.2)
def mulm (m n : G4) : G4 := (m.1 * n.1 + m.2.1 * n.2.2.1, m.1 * n.2.1 + m.2.1 * n.2.2.2, m.2.2.1 * n.1 + m.2.2.2 * n.2.2.1, m.2.2.1 * n.2.1 + m.2.2.2 * n.2.2.2)
def Pr (f : Int) (m n : G4) : G4 := mulm m (flm f n)
def adjm (m : G4) : G4 := (m.2.2.2, -m.2.1, -m.2.2.1, m.1)
def Bk (f : Int) (m : G4) : G4 := flm f (adjm m)
theorem dt_fl (f : Int) (m : G4) : dtG (flm f m) = fl f (dtG m) := by
  unfold dtG flm fl
  simp only
  split
  · rw [Gi.cj_sub, Gi.cj_mul, Gi.cj_mul]
  · rfl
theorem dt_adj (m : G4) : dtG (adjm m) = dtG m := by unfold dtG adjm; simp only; grind
theorem dt_scl (c : Gi) (m : G4) : dtG (scl c m) = c * c * dtG m := by unfold dtG scl; simp only; grind
theorem dt_fst {m : G4} (d : dtG m ≠ 0) : fst4 m ≠ 0 := fun z => by
  apply d
  unfold fst4 at z
  unfold dtG
  split at z
  · rename_i c; exact absurd z c
  · rename_i c1
    split at z
    · rename_i c; exact absurd z c
    · rename_i c2
      have a1 : m.1 = 0 := Classical.byContradiction c1
      have a2 : m.2.1 = 0 := Classical.byContradiction c2
      rw [a1, a2]
      grind
theorem ap_mul (m n : G4) (z w : Gi) : apz (mulm m n) z w = apz m (apz n z w) (apw n z w) ∧ apw (mulm m n) z w = apw m (apz n z w) (apw n z w) := by
  unfold apz apw mulm; simp only; constructor <;> grind
theorem ap_scl (c : Gi) (m : G4) (z w : Gi) : apz (scl c m) z w = c * apz m z w ∧ apw (scl c m) z w = c * apw m z w := by
  unfold apz apw scl; simp only; constructor <;> grind
/-- led by a multiple -/
theorem Led.scl {n : Nat} {f : Int} {c : Gi} {m : G4} {q t : P3} (c0 : c ≠ 0) (h : Led n f (scl c m) q t) : Led n f m q t := by
  unfold Led at *
  rw [(ap_scl _ _ _ _).1, (ap_scl _ _ _ _).2] at h
  refine h.tr (fun ⟨a, b⟩ => h.nz ⟨?_, ?_⟩) (by grind)
  · rw [a]; grind
  · rw [b]; grind
/-- led twice -/
theorem Led.two {l n a : Nat} {f g : Int} {m1 m2 : G4} {q s t : P3} (d : dtG m1 ≠ 0) (hf : f = 0 ∨ f = 1) (hg : g = 0 ∨ g = 1) (hs : Led l g m2 q s) (ht : Led n f m1 s t) : Led n ((f + g) % 2) (Pr f m1 m2) q t := by
  unfold Led at *
  have e : ∀ (z w : Gi), apz (flm 1 m2) z w = (apz m2 z.cj w.cj).cj ∧ apw (flm 1 m2) z w = (apw m2 z.cj w.cj).cj := fun z w => by
    unfold apz apw flm fl
    simp only [if_true, Gi.cj_add, Gi.cj_mul, Gi.cj_cj, and_self]
  rcases hf with rfl | rfl
  · have k := HG.map (m := m1) d hs ht
    have e0 : flm 0 m2 = m2 := rfl
    unfold Pr
    rw [e0, (ap_mul _ _ _ _).1, (ap_mul _ _ _ _).2]
    have eg : ((0 + g) % 2 : Int) = g := by rcases hg with rfl | rfl <;> rfl
    rw [eg]
    exact k
  · have k := HG.map (m := m1) (q := cjP s) d hs.cj ht
    unfold Pr
    rw [(ap_mul _ _ _ _).1, (ap_mul _ _ _ _).2, (e _ _).1, (e _ _).2, rG_self]
    have ez : (fl ((1 + g) % 2) (zG q)).cj = fl g (zG q) := by
      rcases hg with rfl | rfl
      · show ((zG q).cj).cj = zG q; exact Gi.cj_cj _
      · rfl
    rw [ez]
    exact k
theorem bk_pr {f g : Int} (hf : f = 0 ∨ f = 1) (hg : g = 0 ∨ g = 1) (m n : G4) : Bk ((f + g) % 2) (Pr f m n) = Pr g (Bk g n) (Bk f m) := by
  rcases hf with rfl | rfl <;> rcases hg with rfl | rfl <;> simp only [Bk, Pr, flm, fl, mulm, adjm, Prod.mk.injEq] <;> simp [Gi.cj_add, Gi.cj_mul, Gi.cj_cj, Gi.cj_neg] <;> grind
theorem pr_back {f : Int} (hf : f = 0 ∨ f = 1) (m : G4) : Pr f (Bk f m) m = scl (fl f (dtG m)) (1, 0, 0, 1) ∧ Pr f m (Bk f m) = scl (dtG m) (1, 0, 0, 1) := by
  rcases hf with rfl | rfl <;> simp only [Bk, Pr, flm, fl, mulm, adjm, scl, dtG, Prod.mk.injEq] <;> simp [Gi.cj_add, Gi.cj_mul, Gi.cj_cj, Gi.cj_neg, Gi.cj_sub] <;> grind
theorem bk_bk {f : Int} (hf : f = 0 ∨ f = 1) (m : G4) : Bk f (Bk f m) = m := by
  obtain ⟨a, b, c, d⟩ := m
  rcases hf with rfl | rfl <;> simp only [Bk, flm, fl, adjm, Prod.mk.injEq] <;> simp [Gi.cj_cj, Gi.cj_neg] <;> grind
theorem bk_scl (f : Int) (c : Gi) (m : G4) : Bk f (scl c m) = scl (fl f c) (Bk f m) := by
  unfold Bk flm fl adjm scl
  simp only [Prod.mk.injEq]
  split <;> simp only [Gi.cj_neg, Gi.cj_mul] <;> grind
theorem pr_scl (f : Int) (c d : Gi) (m n : G4) : Pr f (scl c m) (scl d n) = scl (c * fl f d) (Pr f m n) := by
  unfold Pr mulm flm fl scl
  simp only [Prod.mk.injEq]
  split <;> (try simp only [Gi.cj_mul]) <;> grind

abbrev gD (a : Gi) : D := .tup [.int a.re, .int a.im]
theorem Nz.cz {n : Nat} {a : Gi} (h : Nz n a) : Cz n (a.re, a.im) := h.sz
theorem sz_nm {n : Nat} {a : Gi} (h : Nz n a) : Sz n a.nm := by
  have := a.nm_nn
  unfold Nz at h
  unfold Sz
  have e : ((2 ^ n : Nat) : Int) = 2 ^ n := by push_cast; rfl
  omega
theorem nm1_inv {u : Gi} (h : u.nm = 1) : u * u.cj = 1 := Gi.ext' (by show u.re * u.re - u.im * -u.im = 1; unfold Gi.nm at h; grind) (by show u.re * -u.im + u.im * u.re = 0; grind)
theorem nm1_ne {u : Gi} (h : u.nm = 1) : u ≠ 0 := fun z => by rw [z] at h; exact absurd h (by decide)
abbrev mD (f : Int) (m : G4) : D := .tup [.int f, gD m.1, gD m.2.1, gD m.2.2.1, gD m.2.2.2]
/-- m is the map of four numbers -/
structure Fm (n : Nat) (N m : G4) : Prop where
  mp : Mp m
  c : ∃ c, c ≠ 0 ∧ N = scl c m
  s1 : Nz n m.1
  s2 : Nz n m.2.1
  s3 : Nz n m.2.2.1
  s4 : Nz n m.2.2.2
theorem Fm.uniq {n l : Nat} {N m m' : G4} (h : Fm n N m) (h' : Fm l N m') : m = m' := by
  obtain ⟨c, c0, e⟩ := h.c
  obtain ⟨c', c0', e'⟩ := h'.c
  exact mp_uniq h.mp h'.mp c0 c0' (e.symm.trans e')
/-- the quotients by a greatest common divisor, times a unit, are the map -/
theorem fm_of' {n : Nat} {x : G4} {g U : Gi} (un : U.nm = 1) (qf : Qf (fst4 x * U)) (g0 : g ≠ 0) (hd : ∃ u v w t, g = u * (x.1 * g) + v * (x.2.1 * g) + w * (x.2.2.1 * g) + t * (x.2.2.2 * g)) (s1 : Nz n (x.1 * g)) (s2 : Nz n (x.2.1 * g)) (s3 : Nz n (x.2.2.1 * g)) (s4 : Nz n (x.2.2.2 * g)) :
    Fm n (x.1 * g, x.2.1 * g, x.2.2.1 * g, x.2.2.2 * g) (x.1 * U, x.2.1 * U, x.2.2.1 * U, x.2.2.2 * U) := by
  have ui := nm1_inv un
  have u0 := nm1_ne un
  have c0 : g * U.cj ≠ 0 := Gi.mul_ne g0 (Gi.cj_ne u0)
  have ef : fst4 (x.1 * U, x.2.1 * U, x.2.2.1 * U, x.2.2.2 * U) = fst4 x * U := by
    have := fst4_scl u0 x
    have e : scl U x = (x.1 * U, x.2.1 * U, x.2.2.1 * U, x.2.2.2 * U) := by
      unfold scl
      rw [show U * x.1 = x.1 * U by grind, show U * x.2.1 = x.2.1 * U by grind, show U * x.2.2.1 = x.2.2.1 * U by grind, show U * x.2.2.2 = x.2.2.2 * U by grind]
    rw [← e, this]
    grind
  have sz : ∀ y : Gi, Nz n (y * g) → Nz n (y * U) := fun y hy => by
    unfold Nz at *
    rw [Gi.nm_mul] at hy ⊢
    rw [un]
    have := Gi.nm_pos g0
    have := y.nm_nn
    have := Int.mul_le_mul_of_nonneg_left (show 1 ≤ g.nm by omega) (show 0 ≤ y.nm by omega)
    omega
  refine ⟨⟨?_, by rw [ef]; exact qf⟩, ⟨g * U.cj, c0, ?_⟩, sz _ s1, sz _ s2, sz _ s3, sz _ s4⟩
  · obtain ⟨u, v, w, t, e⟩ := hd
    refine ⟨u * U.cj, v * U.cj, w * U.cj, t * U.cj, ?_⟩
    simp only
    have k : g * (u * x.1 + v * x.2.1 + w * x.2.2.1 + t * x.2.2.2) = g * 1 := by grind
    have k := Gi.cancel g0 k
    have : u * U.cj * (x.1 * U) + v * U.cj * (x.2.1 * U) + w * U.cj * (x.2.2.1 * U) + t * U.cj * (x.2.2.2 * U) = (u * x.1 + v * x.2.1 + w * x.2.2.1 + t * x.2.2.2) * (U * U.cj) := by grind
    rw [this, k, ui]
    grind
  · unfold scl
    simp only
    have k : ∀ y : Gi, y * g = g * U.cj * (y * U) := fun y => by
      have : g * U.cj * (y * U) = y * g * (U * U.cj) := by grind
      rw [this, ui]
      grind
    rw [← k, ← k, ← k, ← k]
/-- the numbers that are not 0 -/
def nzG : List Gi → List Gi
  | [] => []
  | x :: r => if x = 0 then nzG r else x :: nzG r
theorem nzG_head {x : G4} (h : fst4 x ≠ 0) : ∃ r, nzG [x.1, x.2.1, x.2.2.1, x.2.2.2] = fst4 x :: r := by
  unfold fst4 at *
  by_cases h1 : x.1 = 0
  · by_cases h2 : x.2.1 = 0
    · by_cases h3 : x.2.2.1 = 0
      · simp only [h1, h2, h3, ne_eq, not_true_eq_false, if_false] at h ⊢
        refine ⟨[], ?_⟩
        simp only [nzG, if_true, if_neg h]
      · simp only [h1, h2, h3, ne_eq, not_true_eq_false, not_false_eq_true, if_false, if_true] at h ⊢
        refine ⟨nzG [x.2.2.2], ?_⟩
        rw [nzG, if_pos rfl, nzG, if_pos rfl, nzG, if_neg h3]
    · simp only [h1, h2, ne_eq, not_true_eq_false, not_false_eq_true, if_false, if_true] at h ⊢
      refine ⟨nzG [x.2.2.1, x.2.2.2], ?_⟩
      rw [nzG, if_pos rfl, nzG, if_neg h2]
  · simp only [h1, ne_eq, not_false_eq_true, if_true] at h ⊢
    refine ⟨nzG [x.2.1, x.2.2.1, x.2.2.2], ?_⟩
    rw [nzG, if_neg h1]

theorem fst4_zero {x : G4} {g : Gi} (h : fst4 (x.1 * g, x.2.1 * g, x.2.2.1 * g, x.2.2.2 * g) ≠ 0) : g ≠ 0 ∧ fst4 x ≠ 0 := by
  have g0 : g ≠ 0 := fun z => by
    subst z
    apply h
    have k : ∀ y : Gi, y * 0 = 0 := fun y => by grind
    unfold fst4
    simp only [k, ne_eq, not_true_eq_false, if_false]
  refine ⟨g0, fun z => h ?_⟩
  have := fst4_scl g0 x
  have e : scl g x = (x.1 * g, x.2.1 * g, x.2.2.1 * g, x.2.2.2 * g) := by
    unfold scl
    rw [show g * x.1 = x.1 * g by grind, show g * x.2.1 = x.2.1 * g by grind, show g * x.2.2.1 = x.2.2.1 * g by grind, show g * x.2.2.2 = x.2.2.2 * g by grind]
  rw [e, z] at this
  rw [this]
  grind
theorem fst4_nz {n : Nat} {x : G4} (s1 : Nz n x.1) (s2 : Nz n x.2.1) (s3 : Nz n x.2.2.1) (s4 : Nz n x.2.2.2) : Nz n (fst4 x) := by
  unfold fst4
  split
  · exact s1
  split
  · exact s2
  split
  · exact s3
  · exact s4
/-- a map as the program has it -/
structure Mq (n : Nat) (f : Int) (m : G4) : Prop where
  fl : f = 0 ∨ f = 1
  mp : Mp m
  dt : dtG m ≠ 0
  s1 : Nz n m.1
  s2 : Nz n m.2.1
  s3 : Nz n m.2.2.1
  s4 : Nz n m.2.2.2
theorem Mq.mono {l n : Nat} {f : Int} {m : G4} (h : Mq l f m) (q : l ≤ n) : Mq n f m := ⟨h.fl, h.mp, h.dt, h.s1.mono q, h.s2.mono q, h.s3.mono q, h.s4.mono q⟩
theorem one_ne : (1 : Gi) ≠ 0 := fun z => absurd (congrArg Gi.re z) (by decide)
theorem scl_one (m : G4) : scl 1 m = m := by
  obtain ⟨a, b, c, d⟩ := m
  unfold scl
  simp only [Prod.mk.injEq]
  refine ⟨?_, ?_, ?_, ?_⟩ <;> grind
theorem Mq.fm {n : Nat} {f : Int} {m : G4} (h : Mq n f m) : Fm n m m := ⟨h.mp, ⟨1, one_ne, (scl_one m).symm⟩, h.s1, h.s2, h.s3, h.s4⟩
theorem Fm.mq {n : Nat} {f : Int} {N m : G4} (h : Fm n N m) (hf : f = 0 ∨ f = 1) (d : dtG N ≠ 0) : Mq n f m := by
  obtain ⟨c, c0, e⟩ := h.c
  refine ⟨hf, h.mp, fun z => d ?_, h.s1, h.s2, h.s3, h.s4⟩
  rw [e, dt_scl, z]
  grind
theorem Fm.led {l n : Nat} {f : Int} {N m : G4} {q t : P3} (h : Fm l N m) (hl : Led n f N q t) : Led n f m q t := by
  obtain ⟨c, c0, e⟩ := h.c
  rw [e] at hl
  exact hl.scl c0
/-- along one another -/
theorem Fm.along {l n : Nat} {N N' m m' : G4} {c c' : Gi} (h : Fm l N m) (h' : Fm n N' m') (c0 : c ≠ 0) (c0' : c' ≠ 0) (e : scl c N = scl c' N') : m = m' := by
  obtain ⟨d, d0, k⟩ := h.c
  obtain ⟨d', d0', k'⟩ := h'.c
  rw [k, k'] at e
  have ss : ∀ (a b : Gi) (x : G4), scl a (scl b x) = scl (a * b) x := fun a b x => by
    unfold scl
    simp only [Prod.mk.injEq]
    refine ⟨?_, ?_, ?_, ?_⟩ <;> grind
  rw [ss, ss] at e
  exact mp_uniq h.mp h'.mp (Gi.mul_ne c0 d0) (Gi.mul_ne c0' d0') e

abbrev g1 : G4 := (1, 0, 0, 1)
theorem mp_g1 : Mp g1 := ⟨⟨1, 0, 0, 0, by simp only; grind⟩, by unfold Qf; decide⟩
theorem nz_01 {n : Nat} (h : 1 ≤ n) : Nz n 0 ∧ Nz n 1 := by
  have : (2 : Int) ^ 1 ≤ 2 ^ n := by exact_mod_cast Nat.pow_le_pow_right (n := 2) (by decide) h
  have e : (2 : Int) ^ 1 = 2 := rfl
  constructor
  · unfold Nz; rw [Gi.nm_of_zero]; omega
  · unfold Nz; show (1 : Int) * 1 + 0 * 0 < _; omega
theorem fm_g1 : Fm 1 g1 g1 := ⟨mp_g1, ⟨1, one_ne, (scl_one _).symm⟩, (nz_01 (Nat.le_refl _)).2, (nz_01 (Nat.le_refl _)).1, (nz_01 (Nat.le_refl _)).1, (nz_01 (Nat.le_refl _)).2⟩
theorem Fm.left {l n b : Nat} {f : Int} {m m' x : G4} (hm : Mq n f m) (h : Fm l (Bk f m) m') (h' : Fm b (Pr f m' m) x) : x = g1 := by
  obtain ⟨c, c0, e⟩ := h.c
  have k : scl (c * fl f 1) (Pr f m' m) = scl (fl f (dtG m)) g1 := by
    rw [← pr_scl, scl_one, ← e]
    exact (pr_back hm.fl m).1
  exact h'.along fm_g1 (Gi.mul_ne c0 (fl_ne one_ne)) (fl_ne hm.dt) k
theorem Fm.right {l n b : Nat} {f : Int} {m m' x : G4} (hm : Mq n f m) (h : Fm l (Bk f m) m') (h' : Fm b (Pr f m m') x) : x = g1 := by
  obtain ⟨c, c0, e⟩ := h.c
  have k : scl (1 * fl f c) (Pr f m m') = scl (dtG m) g1 := by
    rw [← pr_scl, scl_one, ← e]
    exact (pr_back hm.fl m).2
  exact h'.along fm_g1 (Gi.mul_ne one_ne (fl_ne c0)) hm.dt k
theorem Led.of_one {l n : Nat} {q t : P3} (hq : Pt l q) (h : Led n 0 g1 q t) : t = q := by
  have e : HG n t (zG q) (rG q) := by
    have := h
    unfold Led at this
    have e1 : apz g1 (fl 0 (zG q)) (rG q) = zG q := by unfold apz fl; rw [if_neg (by decide)]; simp only; grind
    have e2 : apw g1 (fl 0 (zG q)) (rG q) = rG q := by unfold apw fl; simp only; grind
    rw [e1, e2] at this
    exact this
  exact e.uniq (HG.self hq)
/-- there and back -/
theorem Led.back {a b l n c : Nat} {f : Int} {m m' : G4} {q t s : P3} (hm : Mq n f m) (h : Fm l (Bk f m) m') (hm' : dtG m' ≠ 0) (hq : Pt c q) (h1 : Led a f m q t) (h2 : Led b f m' t s) : s = q := by
  have k := Led.two (a := 0) hm' hm.fl hm.fl h1 h2
  have e0 : ((f + f) % 2 : Int) = 0 := by rcases hm.fl with e | e <;> rw [e] <;> rfl
  rw [e0] at k
  obtain ⟨d, d0, e⟩ := h.c
  have k1 : G.scl (d * fl f 1) (Pr f m' m) = G.scl (fl f (dtG m)) g1 := by
    rw [← pr_scl, scl_one, ← e]
    exact (pr_back hm.fl m).1
  have k2 : Led b 0 (G.scl (d * fl f 1) (Pr f m' m)) q s := by
    unfold Led at k ⊢
    rw [(ap_scl _ _ _ _).1, (ap_scl _ _ _ _).2]
    have d1 := Gi.mul_ne d0 (fl_ne (f := f) one_ne)
    refine k.tr (fun ⟨x, y⟩ => k.nz ⟨(Gi.mul_zero' x).resolve_left d1, (Gi.mul_zero' y).resolve_left d1⟩) (by grind)
  rw [k1] at k2
  exact (k2.scl (fl_ne hm.dt)).of_one hq
theorem dt_bk {f : Int} {m : G4} (h : dtG m ≠ 0) : dtG (Bk f m) ≠ 0 := by
  unfold Bk
  rw [dt_fl, dt_adj]
  exact fl_ne h
theorem nz_fl {n : Nat} {f : Int} {a : Gi} (h : Nz n a) : Nz n (fl f a) := by unfold fl; split; exact h.cj; exact h
structure N4 (n : Nat) (m : G4) : Prop where
  s1 : Nz n m.1
  s2 : Nz n m.2.1
  s3 : Nz n m.2.2.1
  s4 : Nz n m.2.2.2
theorem Mq.n4 {n : Nat} {f : Int} {m : G4} (h : Mq n f m) : N4 n m := ⟨h.s1, h.s2, h.s3, h.s4⟩
theorem n4_bk {n : Nat} {f : Int} {m : G4} (h : N4 n m) : N4 n (Bk f m) := ⟨nz_fl h.s4, nz_fl h.s2.neg, nz_fl h.s3.neg, nz_fl h.s1⟩
theorem Mq.bk {n l : Nat} {f : Int} {m m' : G4} (h : Mq n f m) (q : Fm l (Bk f m) m') : Mq l f m' := q.mq h.fl (dt_bk h.dt)
theorem lite_gD {n : Nat} {a : Gi} (h : Nz n a) (l : n ≤ 1900) : (gD a).lite := lite_cx h.cz l
theorem lite_mD {n : Nat} {f : Int} {m : G4} (hf : f = 0 ∨ f = 1) (h : N4 n m) (l : n ≤ 1900) : (mD f m).lite :=
  lite_tup (liteL_cons (Sz.lite (n := 1) (by rcases hf with rfl | rfl <;> unfold Sz <;> decide) (by decide)) (liteL_cons (lite_gD h.s1 l) (liteL_cons (lite_gD h.s2 l) (liteL_cons (lite_gD h.s3 l) (liteL_cons (lite_gD h.s4 l) liteL_nil)))))

theorem nz_of {n : Nat} {a b : Int} (h : Sz n a) (q : Sz n b) : Nz (2 * n + 2) ⟨a, b⟩ := by
  have h1 : Sz (n + n + 1) (a * a + b * b) := ((h.mul h).add (q.mul q)).mono (by omega)
  have nn := Gi.nm_nn ⟨a, b⟩
  unfold Nz
  unfold Sz at h1
  have e : (⟨a, b⟩ : Gi).nm = a * a + b * b := rfl
  rw [e] at nn ⊢
  have l : (2 : Int) ^ (n + n + 1) ≤ 2 ^ (2 * n + 2) := by exact_mod_cast Nat.pow_le_pow_right (n := 2) (by decide) (by omega)
  have h2 : ((a * a + b * b).natAbs : Int) < 2 ^ (n + n + 1) := by exact_mod_cast h1
  omega
theorem dec_gi {a : Gi} : (decide (a.re = 0) && decide (a.im = 0)) = decide (a = 0) := by
  by_cases q : a = 0
  · rw [q]; rfl
  · have : ¬(a.re = 0 ∧ a.im = 0) := fun z => q (Gi.eq0.mp z)
    rw [decide_eq_false q]
    simpa using this
theorem Led.pt {n : Nat} {f : Int} {m : G4} {q t : P3} (h : Led n f m q t) : Pt n t := HG.pt h
theorem Mq.lite {n : Nat} {f : Int} {m : G4} (h : Mq n f m) (l : n ≤ 1900) : (mD f m).lite := lite_mD h.fl h.n4 l
theorem dt_g1 : dtG g1 ≠ 0 := fun z => absurd (congrArg Gi.re z) (by decide)
theorem Mq.g1 : Mq 1 0 L2.G.g1 := fm_g1.mq (.inl rfl) dt_g1

/-! rows led back by maps -/
def mulR (g : Int) (r : R4) : R4 := (g * r.1, g * r.2.1, g * r.2.2.1, g * r.2.2.2)
def addR (x y : R4) : R4 := (x.1 + y.1, x.2.1 + y.2.1, x.2.2.1 + y.2.2.1, x.2.2.2 + y.2.2.2)
def be (r : R4) : Gi := ⟨r.2.1, -r.2.2.1⟩
def valG (r : R4) (z w : Gi) : Int := r.1 * z.nm + (be r * (z * w.cj)).re + r.2.2.2 * w.nm
def RB0 (m : G4) (r : R4) : R4 :=
  (r.1 * m.1.nm + (be r * (m.1 * m.2.2.1.cj)).re + r.2.2.2 * m.2.2.1.nm,
   2 * r.1 * (m.1 * m.2.1.cj).re + (be r * (m.1 * m.2.2.2.cj)).re + ((be r).cj * (m.2.1.cj * m.2.2.1)).re + 2 * r.2.2.2 * (m.2.2.1 * m.2.2.2.cj).re,
   -(2 * r.1 * (m.1 * m.2.1.cj).im + (be r * (m.1 * m.2.2.2.cj)).im + ((be r).cj * (m.2.1.cj * m.2.2.1)).im + 2 * r.2.2.2 * (m.2.2.1 * m.2.2.2.cj).im),
   r.1 * m.2.1.nm + (be r * (m.2.1 * m.2.2.2.cj)).re + r.2.2.2 * m.2.2.2.nm)
def flR (f : Int) (r : R4) : R4 := (r.1, r.2.1, if f = 1 then -r.2.2.1 else r.2.2.1, r.2.2.2)
def RB (f : Int) (m : G4) (r : R4) : R4 := flR f (RB0 m r)
theorem val_G (r : R4) (q : P3) : val4 r q = valG r (zG q) (rG q) := by
  unfold val4 valG be zG rG Gi.nm Gi.cj
  simp only [Gi.mul_re, Gi.mul_im]
  grind
theorem rb0_val (m : G4) (r : R4) (z w : Gi) : valG (RB0 m r) z w = valG r (apz m z w) (apw m z w) := by
  obtain ⟨⟨a, a'⟩, ⟨b, b'⟩, ⟨c, c'⟩, ⟨d, d'⟩⟩ := m
  obtain ⟨q, l, n, k⟩ := r
  obtain ⟨z, z'⟩ := z
  obtain ⟨w, w'⟩ := w
  unfold valG RB0 be apz apw Gi.nm Gi.cj
  simp only [Gi.mul_re, Gi.mul_im, Gi.add_re, Gi.add_im]
  grind
theorem flR_val (f : Int) (r : R4) (z w : Gi) : valG (flR f r) z w = valG r (fl f z) (fl f w) := by
  unfold valG flR fl be
  split
  · unfold Gi.nm Gi.cj
    simp only [Gi.mul_re, Gi.mul_im]
    grind
  · rfl
theorem rb_val (f : Int) (m : G4) (r : R4) (z w : Gi) : valG (RB f m r) z w = valG r (apz m (fl f z) (fl f w)) (apw m (fl f z) (fl f w)) := by
  unfold RB
  rw [flR_val, rb0_val]
theorem val_ext {r r' : R4} (h : ∀ z w, valG r z w = valG r' z w) : r = r' := by
  have h1 := h ⟨1, 0⟩ ⟨0, 0⟩
  have h2 := h ⟨0, 0⟩ ⟨1, 0⟩
  have h3 := h ⟨1, 0⟩ ⟨1, 0⟩
  have h4 := h ⟨0, 1⟩ ⟨1, 0⟩
  obtain ⟨q, l, n, k⟩ := r
  obtain ⟨q', l', n', k'⟩ := r'
  unfold valG be Gi.nm Gi.cj at h1 h2 h3 h4
  simp only [Gi.mul_re, Gi.mul_im] at h1 h2 h3 h4
  have e1 : q = q' := by omega
  have e2 : k = k' := by omega
  have e3 : l = l' := by omega
  have e4 : n = n' := by omega
  rw [e1, e2, e3, e4]
theorem mulR_val (g : Int) (r : R4) (z w : Gi) : valG (mulR g r) z w = g * valG r z w := by
  unfold valG mulR be Gi.nm Gi.cj
  simp only [Gi.mul_re, Gi.mul_im]
  grind
theorem addR_val (x y : R4) (z w : Gi) : valG (addR x y) z w = valG x z w + valG y z w := by
  unfold valG addR be Gi.nm Gi.cj
  simp only [Gi.mul_re, Gi.mul_im]
  grind
theorem val_scl (r : R4) (c z w : Gi) : valG r (c * z) (c * w) = c.nm * valG r z w := by
  unfold valG be Gi.nm Gi.cj
  simp only [Gi.mul_re, Gi.mul_im]
  grind
theorem fl_mul (f : Int) (a b : Gi) : fl f (a * b) = fl f a * fl f b := by
  unfold fl; split
  · exact Gi.cj_mul a b
  · rfl
theorem fl_add (f : Int) (a b : Gi) : fl f (a + b) = fl f a + fl f b := by
  unfold fl; split
  · exact Gi.cj_add a b
  · rfl
theorem fl_nm (f : Int) (a : Gi) : (fl f a).nm = a.nm := by
  unfold fl; split
  · exact Gi.nm_cj a
  · rfl
theorem fl_fl {f g : Int} (hf : f = 0 ∨ f = 1) (hg : g = 0 ∨ g = 1) (a : Gi) : fl g (fl f a) = fl ((f + g) % 2) a := by
  rcases hf with rfl | rfl <;> rcases hg with rfl | rfl <;> simp [fl, Gi.cj_cj]
theorem rb_mul (f g : Int) (m : G4) (r : R4) : RB f m (mulR g r) = mulR g (RB f m r) := val_ext fun z w => by rw [rb_val, mulR_val, mulR_val, rb_val]
theorem rb_add (f : Int) (m : G4) (x y : R4) : RB f m (addR x y) = addR (RB f m x) (RB f m y) := val_ext fun z w => by rw [rb_val, addR_val, addR_val, rb_val, rb_val]
theorem rb_scl (f : Int) (c : Gi) (m : G4) (r : R4) : RB f (scl c m) r = mulR c.nm (RB f m r) := val_ext fun z w => by
  rw [rb_val, mulR_val, rb_val, (ap_scl c m _ _).1, (ap_scl c m _ _).2, val_scl]
theorem rb_comp {f g : Int} (hf : f = 0 ∨ f = 1) (hg : g = 0 ∨ g = 1) (m n : G4) (r : R4) : RB f m (RB g n r) = RB ((f + g) % 2) (Pr g n m) r := val_ext fun z w => by
  rw [rb_val, rb_val, rb_val]
  have e1 : fl g (apz m (fl f z) (fl f w)) = apz (flm g m) (fl ((f + g) % 2) z) (fl ((f + g) % 2) w) := by
    unfold apz flm
    rw [fl_add, fl_mul, fl_mul, fl_fl hf hg, fl_fl hf hg]
  have e2 : fl g (apw m (fl f z) (fl f w)) = apw (flm g m) (fl ((f + g) % 2) z) (fl ((f + g) % 2) w) := by
    unfold apw flm
    rw [fl_add, fl_mul, fl_mul, fl_fl hf hg, fl_fl hf hg]
  rw [e1, e2]
  unfold Pr
  rw [(ap_mul n (flm g m) _ _).1, (ap_mul n (flm g m) _ _).2]
theorem rb_one (r : R4) : RB 0 (1, 0, 0, 1) r = r := val_ext fun z w => by
  rw [rb_val]
  have e1 : apz (1, 0, 0, 1) (fl 0 z) (fl 0 w) = z := by unfold apz fl; simp only; grind
  have e2 : apw (1, 0, 0, 1) (fl 0 z) (fl 0 w) = w := by unfold apw fl; simp only; grind
  rw [e1, e2]
/-- back and there again -/
theorem rb_back {f : Int} (hf : f = 0 ∨ f = 1) (m : G4) (r : R4) : RB f m (RB f (Bk f m) r) = mulR (dtG m).nm r := by
  have e : (f + f) % 2 = 0 := by omega
  rw [rb_comp hf hf, e, (pr_back hf m).1, rb_scl, rb_one, fl_nm]
theorem rb_back' {f : Int} (hf : f = 0 ∨ f = 1) (m : G4) (r : R4) : RB f (Bk f m) (RB f m r) = mulR (dtG m).nm r := by
  have e : (f + f) % 2 = 0 := by omega
  rw [rb_comp hf hf, e, (pr_back hf m).2, rb_scl, rb_one]
theorem bnd_mulR (g : Int) (r : R4) : bnd (mulR g r) = g * g * bnd r := by unfold bnd mulR; simp only; grind
theorem jn_mulR (g h : Int) (x y : R4) : jn (mulR g x) (mulR h y) = g * h * jn x y := by unfold jn mulR; simp only; grind
theorem bnd_addR (x y : R4) : bnd (addR x y) = bnd x + bnd y + 2 * jn x y := by unfold bnd jn addR; simp only; grind
theorem bnd_flR (f : Int) (r : R4) : bnd (flR f r) = bnd r := by unfold bnd flR; simp only; split <;> grind
def io (n : Int) : Gi := ⟨n, 0⟩
theorem io_inj {a b : Int} (h : io a = io b) : a = b := congrArg Gi.re h
theorem bnd_io (r : R4) : io (bnd r) = be r * (be r).cj - io (2 * r.1) * io (2 * r.2.2.2) := by
  refine Gi.ext' ?_ ?_
  · unfold bnd io be Gi.cj; simp only [Gi.mul_re, Gi.sub_re]; grind
  · unfold io be Gi.cj; simp only [Gi.mul_im, Gi.sub_im]; grind
theorem nm_io (a : Gi) : io a.nm = a * a.cj := by
  refine Gi.ext' ?_ ?_
  · unfold io Gi.nm Gi.cj; simp only [Gi.mul_re]; grind
  · unfold io Gi.cj; simp only [Gi.mul_im]; grind
theorem io_mul (a b : Int) : io (a * b) = io a * io b := Gi.ext' (by unfold io; simp only [Gi.mul_re]; grind) (by unfold io; simp only [Gi.mul_im]; grind)
theorem bnd_rb (f : Int) (m : G4) (r : R4) : bnd (RB f m r) = (dtG m).nm * bnd r := by
  unfold RB
  rw [bnd_flR]
  apply io_inj
  rw [io_mul, nm_io, bnd_io, bnd_io]
  obtain ⟨a, b, c, d⟩ := m
  have q1 : io (2 * (RB0 (a, b, c, d) r).1) = (io (2 * r.1) * a + (be r).cj * c) * a.cj + (be r * a + io (2 * r.2.2.2) * c) * c.cj := by
    obtain ⟨q, l, n, k⟩ := r
    refine Gi.ext' ?_ ?_
    · unfold RB0 io be Gi.nm Gi.cj; simp only [Gi.mul_re, Gi.mul_im, Gi.add_re, Gi.add_im]; grind
    · unfold RB0 io be Gi.cj; simp only [Gi.mul_re, Gi.mul_im, Gi.add_re, Gi.add_im]; grind
  have q2 : io (2 * (RB0 (a, b, c, d) r).2.2.2) = (io (2 * r.1) * b + (be r).cj * d) * b.cj + (be r * b + io (2 * r.2.2.2) * d) * d.cj := by
    obtain ⟨q, l, n, k⟩ := r
    refine Gi.ext' ?_ ?_
    · unfold RB0 io be Gi.nm Gi.cj; simp only [Gi.mul_re, Gi.mul_im, Gi.add_re, Gi.add_im]; grind
    · unfold RB0 io be Gi.cj; simp only [Gi.mul_re, Gi.mul_im, Gi.add_re, Gi.add_im]; grind
  have q3 : be (RB0 (a, b, c, d) r) = (io (2 * r.1) * a + (be r).cj * c) * b.cj + (be r * a + io (2 * r.2.2.2) * c) * d.cj := by
    obtain ⟨q, l, n, k⟩ := r
    refine Gi.ext' ?_ ?_
    · unfold RB0 io be Gi.cj; simp only [Gi.mul_re, Gi.mul_im, Gi.add_re, Gi.add_im]; grind
    · unfold RB0 io be Gi.cj; simp only [Gi.mul_re, Gi.mul_im, Gi.add_re, Gi.add_im]; grind
  have q4 : (be (RB0 (a, b, c, d) r)).cj = (io (2 * r.1) * b + (be r).cj * d) * a.cj + (be r * b + io (2 * r.2.2.2) * d) * c.cj := by
    obtain ⟨q, l, n, k⟩ := r
    refine Gi.ext' ?_ ?_
    · unfold RB0 io be Gi.cj; simp only [Gi.mul_re, Gi.mul_im, Gi.add_re, Gi.add_im]; grind
    · unfold RB0 io be Gi.cj; simp only [Gi.mul_re, Gi.mul_im, Gi.add_re, Gi.add_im]; grind
  have q5 : (dtG (a, b, c, d)).cj = a.cj * d.cj - b.cj * c.cj := by unfold dtG; rw [Gi.cj_sub, Gi.cj_mul, Gi.cj_mul]
  rw [q1, q2, q4, q3, q5]
  unfold dtG
  generalize io (2 * r.1) = Q
  generalize io (2 * r.2.2.2) = K
  generalize (be r).cj = B'
  generalize be r = B
  generalize a.cj = A'
  generalize b.cj = B2
  generalize c.cj = C'
  generalize d.cj = D'
  simp only
  grind
theorem jn_rb (f : Int) (m : G4) (x y : R4) : jn (RB f m x) (RB f m y) = (dtG m).nm * jn x y := by
  have h := bnd_rb f m (addR x y)
  rw [rb_add, bnd_addR, bnd_addR, bnd_rb, bnd_rb] at h
  generalize (dtG m).nm = N at *
  generalize jn x y = J at *
  generalize jn (RB f m x) (RB f m y) = J' at *
  generalize bnd x = u at *
  generalize bnd y = v at *
  have : 2 * J' = 2 * (N * J) := by grind
  omega
theorem hg_val {n : Nat} {q : P3} {z w : Gi} (h : HG n q z w) (r : R4) : ((zG q).nm + (rG q).nm) * valG r z w = (z.nm + w.nm) * val4 r q := by
  rw [val_G]
  have e := h.e
  have h1 := val_scl r (rG q) z w
  have h2 := val_scl r w (zG q) (rG q)
  have h3 := val_scl r (zG q) z w
  have h4 := val_scl r z (zG q) (rG q)
  have x1 : valG r (rG q * z) (rG q * w) = valG r (w * zG q) (w * rG q) := by
    rw [show w * zG q = rG q * z by rw [← e]; grind, show w * rG q = rG q * w by grind]
  have x2 : valG r (zG q * z) (zG q * w) = valG r (z * zG q) (z * rG q) := by
    rw [show zG q * w = z * rG q by rw [e]; grind, show zG q * z = z * zG q by grind]
  rw [h1, h2] at x1
  rw [h3, h4] at x2
  rw [Int.add_mul, Int.add_mul]
  omega

/-- the round r is led to t -/
structure Lr (n : Nat) (f : Int) (m : G4) (r t : R4) : Prop where
  rd : Rd n t
  c : ∃ g h : Int, g ≠ 0 ∧ h ≠ 0 ∧ mulR h (RB f (Bk f m) r) = mulR g t
theorem mulR_mulR (a b : Int) (r : R4) : mulR a (mulR b r) = mulR (a * b) r := by unfold mulR; simp only [Int.mul_assoc]
theorem mulR_comm (a b : Int) (r : R4) : mulR a (mulR b r) = mulR b (mulR a r) := by rw [mulR_mulR, mulR_mulR, Int.mul_comm]
theorem rd_mulR {m n : Nat} {r r' : R4} (h : Rd m r) (h' : Rd n r') {g g' : Int} (g0 : g ≠ 0) (g0' : g' ≠ 0) (e : mulR g r = mulR g' r') : r = r' := by
  unfold mulR at e
  simp only [Prod.mk.injEq] at e
  exact rd_uniq h h' g0 g0' e.1 e.2.1 e.2.2.1 e.2.2.2
theorem Lr.uniq {l n : Nat} {f : Int} {m : G4} {r t t' : R4} (h : Lr l f m r t) (h' : Lr n f m r t') : t = t' := by
  obtain ⟨g, a, g0, a0, e⟩ := h.c
  obtain ⟨g', a', g0', a0', e'⟩ := h'.c
  refine rd_mulR h.rd h'.rd (g := a' * g) (g' := a * g') (Int.mul_ne_zero a0' g0) (Int.mul_ne_zero a0 g0') ?_
  rw [← mulR_mulR, ← e, mulR_comm, e', mulR_mulR]
theorem Lr.back {l n b p : Nat} {f : Int} {m m' : G4} {r t s : R4} (hm : Mq p f m) (hr : Rd b r) (hb : Fm l (Bk f m) m') (h : Lr n f m r t) {q : Nat} (h' : Lr q f m' t s) : s = r := by
  obtain ⟨c, c0, ec⟩ := hb.c
  obtain ⟨g, a, g0, a0, e⟩ := h.c
  obtain ⟨g', a', g0', a0', e'⟩ := h'.c
  have np := Gi.nm_pos c0
  have nd := Gi.nm_pos hm.dt
  have e1 : m = scl (fl f c) (Bk f m') := by rw [← bk_scl, ← ec, bk_bk hm.fl]
  have e2 := congrArg (RB f m) e
  rw [rb_mul, rb_mul, rb_back hm.fl] at e2
  have e3 : RB f m t = mulR c.nm (RB f (Bk f m') t) := by
    have := rb_scl f (fl f c) (Bk f m') t
    rw [← e1, fl_nm] at this
    exact this
  rw [e3] at e2
  refine rd_mulR h'.rd hr (g := g * c.nm * g') (g' := a' * a * (dtG m).nm) (Int.mul_ne_zero (Int.mul_ne_zero g0 (by omega)) g0') (Int.mul_ne_zero (Int.mul_ne_zero a0' a0) (by omega)) ?_
  rw [← mulR_mulR, ← e', mulR_comm, ← mulR_mulR g, ← e2, mulR_mulR, mulR_mulR, Int.mul_assoc]
theorem Lr.two {l n b p q : Nat} {f g : Int} {m1 m2 x : G4} {r s t : R4} (h1 : Mq p f m1) (h2 : Mq q g m2) (hx : Fm b (Pr f m1 m2) x) (hs : Lr l g m2 r s) (ht : Lr n f m1 s t) : Lr n ((f + g) % 2) x r t := by
  obtain ⟨c, c0, ec⟩ := hx.c
  obtain ⟨u, a, u0, a0, e⟩ := hs.c
  obtain ⟨u', a', u0', a0', e'⟩ := ht.c
  have np := Gi.nm_pos c0
  refine ⟨ht.rd, u * u', a * a' * c.nm, Int.mul_ne_zero u0 u0', Int.mul_ne_zero (Int.mul_ne_zero a0 a0') (by omega), ?_⟩
  have e1 : RB ((f + g) % 2) (Bk ((f + g) % 2) (Pr f m1 m2)) r = mulR c.nm (RB ((f + g) % 2) (Bk ((f + g) % 2) x) r) := by rw [ec, bk_scl, rb_scl, fl_nm]
  rw [← mulR_mulR, ← e1, bk_pr h1.fl h2.fl, ← rb_comp h1.fl h2.fl, Int.mul_comm a a', ← mulR_mulR, ← rb_mul, e, rb_mul, mulR_comm, e', mulR_mulR]
theorem ne_zero_of {a b c d : Int} (hb : b ≠ 0) (hd : d ≠ 0) (e : b * a = d * c) : a = 0 ↔ c = 0 := by
  constructor
  · rintro rfl
    rw [Int.mul_zero] at e
    exact (Int.mul_eq_zero.mp e.symm).resolve_left hd
  · rintro rfl
    rw [Int.mul_zero] at e
    exact (Int.mul_eq_zero.mp e).resolve_left hb
theorem hg_zero {n : Nat} {q : P3} {z w : Gi} (h : HG n q z w) (r : R4) : valG r z w = 0 ↔ val4 r q = 0 := by
  have s := (HG.self h.pt).nz
  have p1 : (zG q).nm + (rG q).nm ≠ 0 := by
    have := (zG q).nm_nn
    have := (rG q).nm_nn
    intro e
    exact s ⟨Gi.nm_zero (by omega), Gi.nm_zero (by omega)⟩
  have p2 : z.nm + w.nm ≠ 0 := by
    have := z.nm_nn
    have := w.nm_nn
    intro e
    exact h.nz ⟨Gi.nm_zero (by omega), Gi.nm_zero (by omega)⟩
  exact ne_zero_of p1 p2 (hg_val h r)
theorem fl_io {f : Int} (a : Int) : fl f ⟨a, 0⟩ = ⟨a, 0⟩ := by
  unfold fl; split
  · exact Gi.ext' rfl (by show -(0 : Int) = 0; rfl)
  · rfl
theorem val_10 (r : R4) : valG r ⟨1, 0⟩ ⟨0, 0⟩ = r.1 := by
  unfold valG be Gi.nm Gi.cj; simp only [Gi.mul_re, Gi.mul_im]; grind
/-- led to a line just if the place that goes to the far one lies on it -/
theorem Lr.line {l n b : Nat} {f : Int} {m m' : G4} {r t : R4} {q : P3} (hb : Fm l (Bk f m) m') (h : Lr n f m r t) (hq : Led b f m' (1, 0, 0) q) : t.1 = 0 ↔ val4 r q = 0 := by
  obtain ⟨c, c0, ec⟩ := hb.c
  obtain ⟨g, a, g0, a0, e⟩ := h.c
  have np := Gi.nm_pos c0
  rw [← hg_zero hq r]
  rw [ec, rb_scl, mulR_mulR] at e
  have e1 : valG (mulR (a * c.nm) (RB f m' r)) ⟨1, 0⟩ ⟨0, 0⟩ = valG (mulR g t) ⟨1, 0⟩ ⟨0, 0⟩ := by rw [e]
  rw [mulR_val, mulR_val, rb_val, val_10] at e1
  have e2 : fl f (zG (1, 0, 0)) = ⟨1, 0⟩ := fl_io 1
  have e3 : rG (1, 0, 0) = ⟨0, 0⟩ := rfl
  rw [fl_io, fl_io] at e1
  rw [e2, e3]
  exact ne_zero_of g0 (Int.mul_ne_zero a0 (by omega)) e1.symm
theorem Lr.on {l n b : Nat} {f : Int} {m : G4} {r t : R4} {p q : P3} (hm : Mq l f m) (h : Lr n f m r t) (hq : Led b f m p q) : val4 r p = 0 ↔ val4 t q = 0 := by
  obtain ⟨g, a, g0, a0, e⟩ := h.c
  have nd := Gi.nm_pos hm.dt
  rw [← hg_zero hq t]
  have e2 := congrArg (RB f m) e
  rw [rb_mul, rb_mul, rb_back hm.fl, mulR_mulR] at e2
  have e1 := congrArg (fun x => valG x (zG p) (rG p)) e2
  simp only [mulR_val, rb_val] at e1
  have e3 : fl f (rG p) = rG p := fl_io p.2.2
  rw [e3, ← val_G] at e1
  exact ne_zero_of (Int.mul_ne_zero a0 (by omega)) g0 e1
theorem Lr.bnd {n l : Nat} {f : Int} {m : G4} {r t : R4} (hm : Mq l f m) (h : Lr n f m r t) : ∃ g a : Int, g ≠ 0 ∧ a ≠ 0 ∧ mulR a (RB f (Bk f m) r) = mulR g t ∧ a * a * ((dtG m).nm * L2.G.bnd r) = g * g * L2.G.bnd t := by
  obtain ⟨g, a, g0, a0, e⟩ := h.c
  refine ⟨g, a, g0, a0, e, ?_⟩
  have e1 := congrArg L2.G.bnd e
  rw [bnd_mulR, bnd_mulR, bnd_rb] at e1
  have e2 : (dtG (Bk f m)).nm = (dtG m).nm := by unfold Bk; rw [dt_fl, fl_nm, dt_adj]
  rw [e2] at e1
  exact e1
theorem Lr.jn {n n' l : Nat} {f : Int} {m : G4} {r t r' t' : R4} (hm : Mq l f m) (h : Lr n f m r t) (h' : Lr n' f m r' t') : ∃ x y z w : Int, 0 < x ∧ 0 < y ∧ 0 < z ∧ 0 < w ∧ x * (L2.G.bnd r) = y * L2.G.bnd t ∧ z * (L2.G.bnd r') = w * L2.G.bnd t' ∧ (x * z) * (L2.G.jn r r' * L2.G.jn r r') = (y * w) * (L2.G.jn t t' * L2.G.jn t t') := by
  obtain ⟨g, a, g0, a0, e, e1⟩ := h.bnd hm
  obtain ⟨g', a', g0', a0', e', e1'⟩ := h'.bnd hm
  have nd := Gi.nm_pos hm.dt
  have e2 : (dtG (Bk f m)).nm = (dtG m).nm := by unfold Bk; rw [dt_fl, fl_nm, dt_adj]
  have e3 := jn_mulR a a' (RB f (Bk f m) r) (RB f (Bk f m) r')
  rw [e, e', jn_mulR, jn_rb, e2] at e3
  refine ⟨a * a * (dtG m).nm, g * g, a' * a' * (dtG m).nm, g' * g', Int.mul_pos (imul_self_pos a0) nd, imul_self_pos g0, Int.mul_pos (imul_self_pos a0') nd, imul_self_pos g0', ?_, ?_, ?_⟩
  · rw [← e1, Int.mul_assoc]
  · rw [← e1', Int.mul_assoc]
  · generalize (dtG m).nm = N at *
    generalize L2.G.jn r r' = J at *
    generalize L2.G.jn t t' = J' at *
    have e4 : (g * g' * J') * (g * g' * J') = (a * a' * (N * J)) * (a * a' * (N * J)) := by rw [e3]
    clear e e' e1 e1' e3
    grind

abbrev rD (r : R4) : D := .tup [.int r.1, .int r.2.1, .int r.2.2.1, .int r.2.2.2]
theorem cz_be {n : Nat} {r : R4} (h : S4 n r) : Cz n ((be r).re, (be r).im) := ⟨h.s2, h.s3.neg⟩
def bt (r : R4) : Gi := ⟨r.2.1, r.2.2.1⟩
theorem cz_bt {n : Nat} {r : R4} (h : S4 n r) : Cz n ((bt r).re, (bt r).im) := ⟨h.s2, h.s3⟩
def scG (c : Int) (a : Gi) : Gi := ⟨c * a.re, c * a.im⟩
theorem Cz.mulG {m n : Nat} {a b : Gi} (h : Cz m (a.re, a.im)) (q : Cz n (b.re, b.im)) : Cz (m + n + 1) ((a * b).re, (a * b).im) := h.mul q
theorem Cz.addG {m n : Nat} {a b : Gi} (h : Cz m (a.re, a.im)) (q : Cz n (b.re, b.im)) : Cz (m + n + 1) ((a + b).re, (a + b).im) := ((h.mono (Nat.le_add_right m n)).add (q.mono (Nat.le_add_left n m)))
theorem Cz.cjG {n : Nat} {a : Gi} (h : Cz n (a.re, a.im)) : Cz n (a.cj.re, a.cj.im) := h.conj
theorem Cz.scG {m n : Nat} {c : Int} {a : Gi} (hc : Sz m c) (h : Cz n (a.re, a.im)) : Cz (m + n) ((scG c a).re, (scG c a).im) := ⟨hc.mul h.1, hc.mul h.2⟩
theorem Cz.reG {n : Nat} {a : Gi} (h : Cz n (a.re, a.im)) : Sz n a.re := h.1
theorem Cz.imG {n : Nat} {a : Gi} (h : Cz n (a.re, a.im)) : Sz n a.im := h.2
theorem sz2x : Sz 2 2 := by unfold Sz; decide
theorem szm2x : Sz 2 (-2) := by unfold Sz; decide
local macro_rules | `(tactic| walk_at "gz") => `(tactic| (repeat' (first | assumption | exact sz2x | exact szm2x | apply Cz.mulG | apply Cz.addG | apply Cz.cjG | apply Cz.scG | apply Cz.reG | apply Cz.imG | apply Sz.mul | apply Sz.neg)))
local macro_rules | `(tactic| walk_at "mk") => `(tactic| (apply Sz.mulOk; (repeat' (first | assumption | exact sz2x | exact szm2x | apply Cz.reG | apply Cz.imG | apply Cz.mulG | apply Cz.addG | apply Cz.cjG | apply Cz.scG | apply Sz.mul | apply Sz.add | apply Sz.sub | apply Sz.neg)); all_goals omega))
theorem sz_rb {n l : Nat} {f : Int} {m : G4} {r : R4} (hm : N4 n m) (hr : S4 l r) : S4 (2 * n + l + 8) (RB f m r) := by
  obtain ⟨a, b, c, d⟩ := m
  have A1 := hm.s1.cz
  have A2 := hm.s2.cz
  have A3 := hm.s3.cz
  have A4 := hm.s4.cz
  have N1 := sz_nm hm.s1
  have N2 := sz_nm hm.s2
  have N3 := sz_nm hm.s3
  have N4 := sz_nm hm.s4
  have B := cz_be hr
  simp only at A1 A2 A3 A4 N1 N2 N3 N4
  refine ⟨?_, ?_, ?_, ?_⟩
  · exact (((hr.s1.mul N1).add (B.mulG (A1.mulG A3.cjG)).1).add (hr.s4.mul N3)).mono (by omega)
  · exact (((((sz2x.mul hr.s1).mul (A1.mulG A2.cjG).1).add (B.mulG (A1.mulG A4.cjG)).1).add (B.cjG.mulG (A2.cjG.mulG A3)).1).add ((sz2x.mul hr.s4).mul (A3.mulG A4.cjG).1)).mono (by omega)
  · have := (((((sz2x.mul hr.s1).mul (A1.mulG A2.cjG).2).add (B.mulG (A1.mulG A4.cjG)).2).add (B.cjG.mulG (A2.cjG.mulG A3)).2).add ((sz2x.mul hr.s4).mul (A3.mulG A4.cjG).2)).mono (show _ ≤ 2 * n + l + 8 by omega)
    show Sz _ (if f = 1 then - -_ else -_)
    split
    · rw [Int.neg_neg]; exact this
    · exact this.neg
  · exact (((hr.s1.mul N2).add (B.mulG (A2.mulG A4.cjG)).1).add (hr.s4.mul N4)).mono (by omega)
theorem S4.two {n : Nat} {r : R4} (h : S4 n r) : S4 (n + 2) (mulR 2 r) := ⟨(sz2x.mul h.s1).mono (by omega), (sz2x.mul h.s2).mono (by omega), (sz2x.mul h.s3).mono (by omega), (sz2x.mul h.s4).mono (by omega)⟩
theorem Rd.lite {n : Nat} {r : R4} (h : Rd n r) (l : n ≤ 1900) : (rD r).lite := lite_rw h.toRw l
def mirR (x y : R4) : R4 := (bnd x * y.1 - 2 * jn x y * x.1, bnd x * y.2.1 - 2 * jn x y * x.2.1, bnd x * y.2.2.1 - 2 * jn x y * x.2.2.1, bnd x * y.2.2.2 - 2 * jn x y * x.2.2.2)
theorem lite_non' : D.non.lite := by simp only [D.lite]
theorem sz_2 : Sz 2 2 := by unfold Sz; decide
theorem jn_sz {n : Nat} {x y : R4} (hx : S4 n x) (hy : S4 n y) : Sz (2 * n + 4) (jn x y) := (((hx.s2.mul hy.s2).add (hx.s3.mul hy.s3)).sub (sz_2.mul ((hx.s1.mul hy.s4).add (hy.s1.mul hx.s4)))).mono (by omega)
theorem bnd_sz' {n : Nat} {x : R4} (hx : S4 n x) : Sz (2 * n + 4) (bnd x) := bnd_sz hx.s1 hx.s2 hx.s3 hx.s4
theorem w_joint {T : Tk} {n : Nat} {x y : R4} {k : KD} (hx : S4 n x) (hy : S4 n y) (hn : n ≤ 4000) (h : k (.int (jn x y)) T) : sm_joint [.val (.tup [.int x.1, .int x.2.1, .int x.2.2.1, .int x.2.2.2]), .val (.tup [.int y.1, .int y.2.1, .int y.2.2.1, .int y.2.2.2])] T k := by
  rw [e_joint, b_joint]
  walk_at "evn"
  exact ⟨hx.s2.mulOk hy.s2 (by omega) (by omega), hx.s3.mulOk hy.s3 (by omega) (by omega), hx.s1.mulOk hy.s4 (by omega) (by omega), hy.s1.mulOk hx.s4 (by omega) (by omega), lit_mul (by decide), h⟩
def rowR (x y : R4) : R4 := (jn x y * x.1 - bnd x * y.1, jn x y * x.2.1 - bnd x * y.2.1, jn x y * x.2.2.1 - bnd x * y.2.2.1, jn x y * x.2.2.2 - bnd x * y.2.2.2)
/-- the place of a row that has it alone -/
def PlR (n : Nat) (q : P3) (R : R4) : Prop := (R.1 = 0 ∧ q = (1, 0, 0)) ∨ (R.1 ≠ 0 ∧ PlQ n q (-(R.2.1 : Rat) / (2 * (R.1 : Rat))) (-(R.2.2.1 : Rat) / (2 * (R.1 : Rat))))
theorem PlR.uniq {m n : Nat} {q q' : P3} {R : R4} (h : PlR m q R) (h' : PlR n q' R) : q = q' := by
  rcases h with ⟨a, b⟩ | ⟨a, b⟩ <;> rcases h' with ⟨c, d⟩ | ⟨c, d⟩
  · rw [b, d]
  · exact absurd a c
  · exact absurd c a
  · exact b.uniq d
theorem cast_ne {a : Int} (h : a ≠ 0) : (a : Rat) ≠ 0 := fun e => h (cast_inj (b := 0) e)
theorem PlR.scale {n : Nat} {q : P3} {R R' : R4} (h : PlR n q R) {c d : Int} (c0 : c ≠ 0) (d0 : d ≠ 0) (e1 : c * R.1 = d * R'.1) (e2 : c * R.2.1 = d * R'.2.1) (e3 : c * R.2.2.1 = d * R'.2.2.1) : PlR n q R' := by
  rcases h with ⟨a, b⟩ | ⟨a, b⟩
  · left
    rw [a, Int.mul_zero] at e1
    exact ⟨(Int.mul_eq_zero.mp e1.symm).resolve_left d0, b⟩
  · right
    have r0 : R'.1 ≠ 0 := fun z => by
      rw [z, Int.mul_zero] at e1
      exact (Int.mul_eq_zero.mp e1).elim c0 a
    refine ⟨r0, ?_⟩
    have k1 : (c : Rat) * (R.1 : Rat) = d * (R'.1 : Rat) := by rw [← Rat.intCast_mul, e1, Rat.intCast_mul]
    have k2 : (c : Rat) * (R.2.1 : Rat) = d * (R'.2.1 : Rat) := by rw [← Rat.intCast_mul, e2, Rat.intCast_mul]
    have k3 : (c : Rat) * (R.2.2.1 : Rat) = d * (R'.2.2.1 : Rat) := by rw [← Rat.intCast_mul, e3, Rat.intCast_mul]
    have z1 := cast_ne a
    have z2 := cast_ne r0
    have z3 := cast_ne c0
    have z4 := cast_ne d0
    have u : -(R.2.1 : Rat) / (2 * (R.1 : Rat)) = -(R'.2.1 : Rat) / (2 * (R'.1 : Rat)) := by
      generalize (R.1 : Rat) = a1 at *
      generalize (R.2.1 : Rat) = a2 at *
      generalize (R'.1 : Rat) = b1 at *
      generalize (R'.2.1 : Rat) = b2 at *
      generalize (c : Rat) = cc at *
      generalize (d : Rat) = dd at *
      grind
    have v : -(R.2.2.1 : Rat) / (2 * (R.1 : Rat)) = -(R'.2.2.1 : Rat) / (2 * (R'.1 : Rat)) := by
      generalize (R.1 : Rat) = a1 at *
      generalize (R.2.2.1 : Rat) = a2 at *
      generalize (R'.1 : Rat) = b1 at *
      generalize (R'.2.2.1 : Rat) = b2 at *
      generalize (c : Rat) = cc at *
      generalize (d : Rat) = dd at *
      grind
    rw [← u, ← v]
    exact b
def TPl (n : Nat) (x y : R4) (d : D) : Prop := ((x = y ∨ jn x y * jn x y ≠ bnd x * bnd y) ∧ d = .non) ∨ (x ≠ y ∧ jn x y * jn x y = bnd x * bnd y ∧ ∃ q, d = pD q ∧ PlR n q (rowR x y))
theorem TPl.uniq {m n : Nat} {x y : R4} {d d' : D} (h : TPl m x y d) (h' : TPl n x y d') : d = d' := by
  rcases h with ⟨a, b⟩ | ⟨a1, a2, q, b, c⟩ <;> rcases h' with ⟨a', b'⟩ | ⟨a1', a2', q', b', c'⟩
  · rw [b, b']
  · rcases a with a | a
    · exact absurd a a1'
    · exact absurd a2' a
  · rcases a' with a' | a'
    · exact absurd a' a1
    · exact absurd a2 a'
  · rw [b, b', c.uniq c']
theorem TPl.symm {n m : Nat} {x y : R4} {d : D} (rx : Rw m x) (ry : Rw m y) (h : TPl n x y d) : TPl n y x d := by
  rcases h with ⟨a, b⟩ | ⟨a1, a2, q, b, c⟩
  · left
    refine ⟨?_, b⟩
    rcases a with a | a
    · exact .inl a.symm
    · right
      rw [jn_comm y x, Int.mul_comm (bnd y)]
      exact a
  · right
    refine ⟨fun e => a1 e.symm, by rw [jn_comm y x, Int.mul_comm (bnd y)]; exact a2, q, b, ?_⟩
    have j0 : jn x y ≠ 0 := fun z => by
      rw [z] at a2
      have := Int.mul_pos rx.bend ry.bend
      omega
    have b0 : bnd x ≠ 0 := by have := rx.bend; omega
    have key : ∀ s t : Int, -jn x y * (jn x y * s - bnd x * t) = bnd x * (jn y x * t - bnd y * s) := fun s t => by
      rw [jn_comm y x]
      have : -jn x y * (jn x y * s - bnd x * t) = -(jn x y * jn x y) * s + jn x y * bnd x * t := by grind
      rw [this, a2]
      grind
    exact c.scale (c := -jn x y) (d := bnd x) (by omega) b0 (key _ _) (key _ _) (key _ _)
theorem TPl.lite {n : Nat} {x y : R4} {d : D} (h : TPl n x y d) (hn : n ≤ 1900) : d.lite := by
  rcases h with ⟨_, b⟩ | ⟨_, _, q, b, c⟩
  · rw [b]; exact lite_non'
  · rw [b]
    rcases c with ⟨_, e⟩ | ⟨_, e⟩
    · rw [e]; exact lite_pt (pt_far (n := 1) (by decide)) (by decide)
    · exact lite_pl e hn
theorem PlQ.cj {n : Nat} {q : P3} {u v : Rat} (h : PlQ n q u v) : PlQ n (q.1, 0 - q.2.1, q.2.2) u (-v) := by
  refine ⟨h.pos, ?_, h.s1, by simp only [Int.zero_sub]; exact h.s2.neg, h.s3, h.e1, ?_⟩
  · have := h.one
    have e : ∀ g a b c : Int, gcdL g [a, 0 - b, c] = gcdL g [a, b, c] := fun g a b c => by
      unfold gcdL gcdL gcdL gcdL
      have : iGcd (iGcd g a) (0 - b) = iGcd (iGcd g a) b := by
        show ((Nat.gcd _ _ : Nat) : Int) = ((Nat.gcd _ _ : Nat) : Int)
        rw [Int.zero_sub, Int.natAbs_neg]
      rw [this]
    rw [e]
    exact this
  · simp only
    push_cast
    rw [h.e2]
    generalize (q.2.2 : Rat) = R
    grind

/-! mirrors as maps -/
def MM (r : R4) : G4 := (⟨-r.2.1, -r.2.2.1⟩, ⟨-(2 * r.2.2.2), 0⟩, ⟨2 * r.1, 0⟩, ⟨r.2.1, -r.2.2.1⟩)
theorem g4_ext {x y : G4} (h1 : x.1.re = y.1.re) (h2 : x.1.im = y.1.im) (h3 : x.2.1.re = y.2.1.re) (h4 : x.2.1.im = y.2.1.im) (h5 : x.2.2.1.re = y.2.2.1.re) (h6 : x.2.2.1.im = y.2.2.1.im) (h7 : x.2.2.2.re = y.2.2.2.re) (h8 : x.2.2.2.im = y.2.2.2.im) : x = y := by
  obtain ⟨a, b, c, d⟩ := x
  obtain ⟨a', b', c', d'⟩ := y
  simp only at h1 h2 h3 h4 h5 h6 h7 h8
  rw [Gi.ext' h1 h2, Gi.ext' h3 h4, Gi.ext' h5 h6, Gi.ext' h7 h8]
theorem mm_bk (r : R4) : Bk 1 (MM r) = scl (io (-1)) (MM r) := by
  obtain ⟨q, l, n, k⟩ := r
  refine g4_ext ?_ ?_ ?_ ?_ ?_ ?_ ?_ ?_
  all_goals
    simp only [Bk, adjm, flm, fl, MM, scl, io, Gi.cj, Gi.mul_re, Gi.mul_im, Gi.neg_re, Gi.neg_im, if_true]
    grind
theorem mm_rb (x y : R4) : RB 1 (MM x) y = mirR x y := by
  obtain ⟨q, l, n, k⟩ := x
  obtain ⟨q', l', n', k'⟩ := y
  unfold mirR RB flR RB0 MM be bnd jn Gi.nm Gi.cj
  simp only [Gi.mul_re, Gi.mul_im, if_true, Prod.mk.injEq]
  refine ⟨?_, ?_, ?_, ?_⟩
  all_goals grind
/-- the image of a row in a round -/
structure Lm (n : Nat) (x y t : R4) : Prop where
  rd : Rd n t
  c : ∃ g h : Int, g ≠ 0 ∧ h ≠ 0 ∧ mulR h (mirR x y) = mulR g t
theorem Lm.uniq {l n : Nat} {x y t t' : R4} (h : Lm l x y t) (h' : Lm n x y t') : t = t' := by
  obtain ⟨g, a, g0, a0, e⟩ := h.c
  obtain ⟨g', a', g0', a0', e'⟩ := h'.c
  refine rd_mulR h.rd h'.rd (g := a' * g) (g' := a * g') (Int.mul_ne_zero a0' g0) (Int.mul_ne_zero a0 g0') ?_
  rw [← mulR_mulR, ← e, mulR_comm, e', mulR_mulR]
theorem Lr.lm {l n : Nat} {x y t : R4} {m' : G4} (hm : Fm l (MM x) m') (h : Lr n 1 m' y t) : Lm n x y t := by
  obtain ⟨c, c0, e⟩ := hm.c
  obtain ⟨g, a, g0, a0, e1⟩ := h.c
  have np := Gi.nm_pos c0
  refine ⟨h.rd, c.nm * g, a, Int.mul_ne_zero (by omega) g0, a0, ?_⟩
  have e2 : mirR x y = mulR c.nm (RB 1 (Bk 1 m') y) := by
    have e3 : RB 1 (Bk 1 (MM x)) y = mirR x y := by
      rw [mm_bk, rb_scl, mm_rb]
      show mulR 1 _ = _
      unfold mulR; simp only [Int.one_mul]
    rw [← e3, e, bk_scl, rb_scl, fl_nm]
  rw [e2, mulR_comm, e1, mulR_mulR]
/-! a map is settled by three places -/
theorem quad3 {a b c z1 w1 z2 w2 z3 w3 : Gi} (d12 : z1 * w2 - z2 * w1 ≠ 0) (d13 : z1 * w3 - z3 * w1 ≠ 0) (d23 : z2 * w3 - z3 * w2 ≠ 0) (h1 : a * z1 * z1 + b * z1 * w1 + c * w1 * w1 = 0) (h2 : a * z2 * z2 + b * z2 * w2 + c * w2 * w2 = 0) (h3 : a * z3 * z3 + b * z3 * w3 + c * w3 * w3 = 0) : a = 0 ∧ b = 0 ∧ c = 0 := by
  have B0 : 2 * a * z1 * z2 + b * (z1 * w2 + z2 * w1) + 2 * c * w1 * w2 = 0 := by
    have k : (z1 * w3 - z3 * w1) * ((z2 * w3 - z3 * w2) * (2 * a * z1 * z2 + b * (z1 * w2 + z2 * w1) + 2 * c * w1 * w2)) = 0 := by
      have e : (z1 * w3 - z3 * w1) * ((z2 * w3 - z3 * w2) * (2 * a * z1 * z2 + b * (z1 * w2 + z2 * w1) + 2 * c * w1 * w2)) = (z2 * w3 - z3 * w2) * (z2 * w3 - z3 * w2) * (a * z1 * z1 + b * z1 * w1 + c * w1 * w1) + (z1 * w3 - z3 * w1) * (z1 * w3 - z3 * w1) * (a * z2 * z2 + b * z2 * w2 + c * w2 * w2) - (z1 * w2 - z2 * w1) * (z1 * w2 - z2 * w1) * (a * z3 * z3 + b * z3 * w3 + c * w3 * w3) := by
        clear h1 h2 h3 d12 d13 d23
        grind
      rw [e, h1, h2, h3]
      grind
    exact (Gi.mul_zero' ((Gi.mul_zero' k).resolve_left d13)).resolve_left d23
  have dd := Gi.mul_ne d12 d12
  refine ⟨?_, ?_, ?_⟩
  · refine (Gi.mul_zero' (a := (z1 * w2 - z2 * w1) * (z1 * w2 - z2 * w1)) ?_).resolve_left dd
    have e : (z1 * w2 - z2 * w1) * (z1 * w2 - z2 * w1) * a = w2 * w2 * (a * z1 * z1 + b * z1 * w1 + c * w1 * w1) + w1 * w1 * (a * z2 * z2 + b * z2 * w2 + c * w2 * w2) - w1 * w2 * (2 * a * z1 * z2 + b * (z1 * w2 + z2 * w1) + 2 * c * w1 * w2) := by
      clear h1 h2 h3 d12 d13 d23 B0 dd
      grind
    rw [e, h1, h2, B0]
    grind
  · refine (Gi.mul_zero' (a := (z1 * w2 - z2 * w1) * (z1 * w2 - z2 * w1)) ?_).resolve_left dd
    have e : (z1 * w2 - z2 * w1) * (z1 * w2 - z2 * w1) * b = -(2 * z2 * w2 * (a * z1 * z1 + b * z1 * w1 + c * w1 * w1)) - 2 * z1 * w1 * (a * z2 * z2 + b * z2 * w2 + c * w2 * w2) + (z1 * w2 + z2 * w1) * (2 * a * z1 * z2 + b * (z1 * w2 + z2 * w1) + 2 * c * w1 * w2) := by
      clear h1 h2 h3 d12 d13 d23 B0 dd
      grind
    rw [e, h1, h2, B0]
    grind
  · refine (Gi.mul_zero' (a := (z1 * w2 - z2 * w1) * (z1 * w2 - z2 * w1)) ?_).resolve_left dd
    have e : (z1 * w2 - z2 * w1) * (z1 * w2 - z2 * w1) * c = z2 * z2 * (a * z1 * z1 + b * z1 * w1 + c * w1 * w1) + z1 * z1 * (a * z2 * z2 + b * z2 * w2 + c * w2 * w2) - z1 * z2 * (2 * a * z1 * z2 + b * (z1 * w2 + z2 * w1) + 2 * c * w1 * w2) := by
      clear h1 h2 h3 d12 d13 d23 B0 dd
      grind
    rw [e, h1, h2, B0]
    grind
theorem fl_im {f : Int} {a : Int} : fl f (⟨a, 0⟩ : Gi) = ⟨a, 0⟩ := by
  unfold fl; split
  · exact Gi.ext' rfl (by show -(0 : Int) = 0; rfl)
  · rfl
theorem fl_inj' {f : Int} {a b : Gi} (h : fl f a = fl f b) : a = b := by
  unfold fl at h
  split at h
  · have := congrArg Gi.cj h; rw [Gi.cj_cj, Gi.cj_cj] at this; exact this
  · exact h
/-- unlike places are not along one another -/
theorem pt_cross {a b : Nat} {f : Int} {p q : P3} (hp : Pt a p) (hq : Pt b q) (ne : p ≠ q) : fl f (zG p) * rG q - fl f (zG q) * rG p ≠ 0 := fun e => by
  apply ne
  have e1 : fl f (zG p * rG q) = fl f (zG q * rG p) := by
    have r1 : fl f (rG q) = rG q := fl_im
    have r2 : fl f (rG p) = rG p := fl_im
    have m1 : ∀ a b : Gi, fl f (a * b) = fl f a * fl f b := fun a b => by
      unfold fl; split
      · exact Gi.cj_mul a b
      · rfl
    rw [m1, m1, r1, r2]
    grind
  have e2 := fl_inj' e1
  have h := HG.self hq
  have h2 := HG.self hp
  have s := h2.nz
  exact HG.uniq h2 (h.tr s (by rw [show zG q * rG p = zG p * rG q from e2.symm]))
theorem Led.three {l n a b c n1 n2 n3 l1 l2 l3 : Nat} {f : Int} {m m' : G4} {p q s t u v : P3} (hm : Mq l f m) (hm' : Mq n f m') (hp : Pt a p) (hq : Pt b q) (hs : Pt c s) (pq : p ≠ q) (ps : p ≠ s) (qs : q ≠ s)
    (h1 : Led n1 f m p t) (h1' : Led l1 f m' p t) (h2 : Led n2 f m q u) (h2' : Led l2 f m' q u) (h3 : Led n3 f m s v) (h3' : Led l3 f m' s v) : m = m' := by
  have c1 := HG.cross h1 h1'
  have c2 := HG.cross h2 h2'
  have c3 := HG.cross h3 h3'
  have d12 := pt_cross (f := f) hp hq pq
  have d13 := pt_cross (f := f) hp hs ps
  have d23 := pt_cross (f := f) hq hs qs
  have fm := hm.fm
  have fm' := hm'.fm
  have dt := hm.dt
  have dt' := hm'.dt
  clear h1 h1' h2 h2' h3 h3' hm hm'
  generalize fl f (zG p) = z1 at *
  generalize fl f (zG q) = z2 at *
  generalize fl f (zG s) = z3 at *
  generalize rG p = w1 at *
  generalize rG q = w2 at *
  generalize rG s = w3 at *
  obtain ⟨A, B, C, D⟩ := m
  obtain ⟨A', B', C', D'⟩ := m'
  unfold apz apw at c1 c2 c3
  unfold dtG at dt dt'
  simp only at c1 c2 c3 dt dt'
  obtain ⟨q1, q2, q3⟩ := quad3 (a := A * C' - A' * C) (b := A * D' + B * C' - A' * D - B' * C) (c := B * D' - B' * D) d12 d13 d23 (by clear c2 c3 d12 d13 d23 dt dt'; grind) (by clear c1 c3 d12 d13 d23 dt dt'; grind) (by clear c1 c2 d12 d13 d23 dt dt'; grind)
  clear c1 c2 c3 d12 d13 d23
  have x0 : D' * A - B' * C ≠ 0 := fun z => by
    have k1 : A' * D - C' * B = 0 := by grind
    have : (A' * D' - B' * C') * (A * D - B * C) = 0 := by
      have e : (A' * D' - B' * C') * (A * D - B * C) = (D' * A - B' * C) * (A' * D - C' * B) + (B * D' - B' * D) * (A * C' - A' * C) := by clear z k1 q1 q2 q3 dt dt'; grind
      rw [e, z, q3]
      grind
    exact (Gi.mul_ne dt' dt) this
  refine fm.along fm' dt' x0 ?_
  unfold L2.G.scl
  simp only [Prod.mk.injEq]
  refine ⟨?_, ?_, ?_, ?_⟩
  · clear x0 dt dt' fm fm'; grind
  · clear x0 dt dt' fm fm'; grind
  · clear x0 dt dt' fm fm'; grind
  · clear x0 dt dt' fm fm'; grind

abbrev pF : P3 := (1, 0, 0)
/-- m leads three places to three -/
structure L3 (f : Int) (m : G4) (p q s p' q' s' : P3) : Prop where
  a : ∃ n, Led n f m p p'
  b : ∃ n, Led n f m q q'
  c : ∃ n, Led n f m s s'
theorem L3.uniq {l n a b c : Nat} {f : Int} {m m' : G4} {p q s t u v : P3} (hm : Mq l f m) (hm' : Mq n f m') (hp : Pt a p) (hq : Pt b q) (hs : Pt c s) (pq : p ≠ q) (ps : p ≠ s) (qs : q ≠ s) (h : L3 f m p q s t u v) (h' : L3 f m' p q s t u v) : m = m' := by
  obtain ⟨_, a1⟩ := h.a
  obtain ⟨_, a2⟩ := h.b
  obtain ⟨_, a3⟩ := h.c
  obtain ⟨_, b1⟩ := h'.a
  obtain ⟨_, b2⟩ := h'.b
  obtain ⟨_, b3⟩ := h'.c
  exact Led.three hm hm' hp hq hs pq ps qs a1 b1 a2 b2 a3 b3
theorem nz_cz {n : Nat} {a : Gi} (h : Cz n (a.re, a.im)) : Nz (2 * n + 2) a := nz_of h.1 h.2
theorem Fm.self {n : Nat} {N m : G4} (h : Fm n N m) : Fm n m m := ⟨h.mp, ⟨1, one_ne, (scl_one m).symm⟩, h.s1, h.s2, h.s3, h.s4⟩
theorem r4_dc (t y : R4) : (decide (t.1 = y.1) && (decide (t.2.1 = y.2.1) && (decide (t.2.2.1 = y.2.2.1) && decide (t.2.2.2 = y.2.2.2)))) = decide (t = y) := by
  obtain ⟨a, b, c, d⟩ := t
  obtain ⟨a', b', c', d'⟩ := y
  simp only [Prod.mk.injEq, Bool.decide_and]
theorem gi_dc (a b : Gi) : (decide (a.re = b.re) && decide (a.im = b.im)) = decide (a = b) := by
  obtain ⟨x, y⟩ := a
  obtain ⟨x', y'⟩ := b
  simp only [Gi.mk.injEq, Bool.decide_and]
abbrev F2 := Int × Int
/-- a fraction above 0 -/
structure Fr2 (n : Nat) (q : F2) : Prop where
  p1 : 0 < q.1
  p2 : 0 < q.2
  one : gcdL 0 [q.1, q.2] = 1
  s1 : Sz n q.1
  s2 : Sz n q.2
structure Pw (n : Nat) (q : F2) : Prop where
  p1 : q.1 ≠ 0
  p2 : 0 < q.2
  one : gcdL 0 [q.1, q.2] = 1
  s1 : Sz n q.1
  s2 : Sz n q.2
abbrev R2g := F2 × F2
structure Rg (n : Nat) (r : R2g) : Prop where
  a : Fr2 n r.1
  b : Fr2 n r.2
  lt : r.1.1 * r.2.2 < r.2.1 * r.1.2
/-- a near place -/
structure Nr (n : Nat) (p : P3) : Prop extends Pt n p where
  pos : 0 < p.2.2
theorem Nr.mono {m n : Nat} {p : P3} (h : Nr m p) (l : m ≤ n) : Nr n p := ⟨h.toPt.mono l, h.pos⟩
theorem Nr.nf {n : Nat} {p : P3} (h : Nr n p) : p ≠ pF := fun e => by
  have := h.pos
  rw [e] at this
  exact absurd this (by decide)
theorem Pt.nr {n : Nat} {p : P3} (h : Pt n p) (ne : p ≠ pF) : Nr n p := ⟨h, by
  have := h.nn
  have : p.2.2 ≠ 0 := fun e => ne (h.far e)
  omega⟩
theorem PlQ.nr {n : Nat} {q : P3} {u v : Rat} (h : PlQ n q u v) : Nr n q := ⟨h.pt, h.pos⟩
theorem Nr.r0 {n : Nat} {p : P3} (h : Nr n p) : rG p ≠ 0 := fun e => by
  have := h.pos
  have e := congrArg Gi.re e
  unfold rG at e
  simp only at e
  rw [e] at this
  exact absurd this (by decide)
theorem HG.near {n : Nat} {q : P3} {z w : Gi} (h : HG n q z w) (w0 : w ≠ 0) : Nr n q := h.pt.nr fun e => by
  have k := h.e
  rw [e] at k
  have z1 : zG pF = 1 := rfl
  have r1 : rG pF = 0 := rfl
  rw [z1, r1] at k
  exact w0 (by rw [show w = 1 * w by grind, k]; grind)
/-- a cell of an arm -/
inductive Ce where
  | carry (p : P3)
  | mirror (r : R4)
  | grow (p q : P3) (g : R2g)
  | turn (p : P3) (w : F2) (g : R2g)
/-- a spring: the digits left, the stirred number, the count -/
def TkS (T : Tk) : Prop := ∃ a b c, T = [.int a, .int b, .int c] ∧ 0 ≤ a ∧ 0 ≤ b ∧ b < 1099511627776
theorem TkS.noL {T : Tk} (h : TkS T) : D.noLL T := by
  obtain ⟨a, b, c, rfl, _⟩ := h
  simp only [noLL_cons, noLL_nil, noL_int, and_true]
theorem w_well_loop {F : En → Tk → Prop} {A B : Option SV} {T : Tk} : ∀ (ns : List Int) (s : Int) (c : Option SV), 0 ≤ s ∧ s < 1099511627776 → (∀ s' c', 0 ≤ s' ∧ s' < 1099511627776 → F [A, B, some (.val (.int s')), c', none, none] T) →
    forL (gN 3) (sAsg (dOp (oF fMod) (dBlt (oG fInt) (aCons (dOp (oF fAdd) (dOp (oF fAdd) (dOp (oF fMul) (dVar 2) (dC (.int 47917))) (dOp (oF fMod) (dBlt (oG fInt) (aCons (dVar 3) (aNil))) (dC (.int 2147483549)))) (dC (.int 31))) (aNil))) (dC (.int 2147483549))) (gN 2)) { no0 with nx := F } (ns.map D.int) [A, B, some (.val (.int s)), c, none, none] T
  | [], s, c, h0, h => h s c h0
  | n :: ns, s, c, h0, h => by
    rw [List.map_cons]
    walk_at "ev"
    exact ⟨lit_mul' (by decide), w_well_loop ns _ _ ⟨Int.emod_nonneg _ (by decide), by have := Int.emod_lt_of_pos (s * 47917 + n % 2147483549 + 31) (b := 2147483549) (by decide); omega⟩ h⟩
theorem w__law_well {ns : List Int} {i : Int} {k : KD} (hi : 0 ≤ i) (hi2 : i ≤ 1000) (h : ∀ T, TkS T → k (.lst T) []) : sm__law_well [.val (scrD ns), .val (.int i)] [] k := by
  rw [e__law_well, b__law_well, scrD]
  walk_at "ev"
  refine ⟨lit_mul (by decide), ?_, ?_⟩
  · have := List.length_take_le 9 (ns.map D.int); omega
  rw [← List.map_take]
  refine w_well_loop _ _ _ (by omega) fun s c hs => ?_
  have hk : ∀ o : Int, ∀ p : Int, 0 ≤ p → k (.lst [.int p, .int ((s * 30029 + o % 2147483549 * 6211 + 13) % 2147483549), .int 0]) [] := fun o p hp => h _ ⟨_, _, _, rfl, hp, Int.emod_nonneg _ (by decide), by have := Int.emod_lt_of_pos (s * 30029 + o % 2147483549 * 6211 + 13) (b := 2147483549) (by decide); omega⟩
  walk_at "ev"
  have hp : ∀ o : Int, 0 ≤ iAbs o := fun o => by unfold iAbs; split <;> omega
  have fin : ∀ o : Int, (if o < 0 then MulOk s 30029 ∧ MulOk (o % 2147483549) 6211 ∧ k (.lst [.int (iAbs o), .int ((s * 30029 + o % 2147483549 * 6211 + 13) % 2147483549), .int 0]) []
      else CPow 10 18 ∧ if 10 ^ Int.toNat 18 ≤ o then MulOk s 30029 ∧ MulOk (o % 2147483549) 6211 ∧ k (.lst [.int (iAbs o), .int ((s * 30029 + o % 2147483549 * 6211 + 13) % 2147483549), .int 0]) []
      else MulOk s 30029 ∧ MulOk (o % 2147483549) 6211 ∧ k (.lst [.int 0, .int ((s * 30029 + o % 2147483549 * 6211 + 13) % 2147483549), .int 0]) []) := by
    intro o
    have m1 : MulOk s 30029 := lit_mul' (by decide)
    have m2 : MulOk (o % 2147483549) 6211 := lit_mul' (by decide)
    have q0 := hp o
    generalize iAbs o = q at q0 ⊢
    split
    · exact ⟨m1, m2, hk o _ q0⟩
    refine ⟨by unfold CPow; decide, ?_⟩
    split
    · exact ⟨m1, m2, hk o _ q0⟩
    · exact ⟨m1, m2, hk o _ (Int.le_refl _)⟩
  split
  · rename_i hl
    obtain ⟨n, rfl⟩ := Int.eq_ofNat_of_zero_le hi
    rw [atI_nat', List.getElem?_map, List.getElem?_eq_getElem (by simpa using hl)]
    walk_at "ev"
    exact fin _
  · walk_at "ev"
    have f0 := fin 0
    rw [if_neg (by decide)] at f0
    exact f0
theorem w__law_dip {T : Tk} {m : Int} {k : KD} (hT : TkS T) (h0 : 0 < m) (h1 : m.natAbs < 2 ^ 64) (h : ∀ r T', 0 ≤ r → r < m → TkS T' → k (.int r) T') : sm__law_dip [.tank, .val (.int m)] T k := by
  obtain ⟨a, b, c, rfl, ha, hb, hb2⟩ := hT
  rw [e__law_dip, b__law_dip]
  walk_at "ev"
  split
  · exact ⟨lit_dm h0 h1, h _ _ (Int.emod_nonneg _ (by omega)) (Int.emod_lt_of_pos _ h0) ⟨_, _, _, rfl, Int.ediv_nonneg ha (by omega), hb, hb2⟩⟩
  · have mo : 0 ≤ b % 10037 := Int.emod_nonneg _ (by decide)
    have m1 : b % 10037 < 10037 := Int.emod_lt_of_pos _ (by decide)
    refine ⟨lit_mul' (by omega), lit_mul (by decide), lit_div (by decide) (by decide), h0, h _ _ (Int.emod_nonneg _ (by omega)) (Int.emod_lt_of_pos _ h0) ⟨_, _, _, rfl, ha, Int.emod_nonneg _ (by decide), ?_⟩⟩
    exact Int.lt_of_lt_of_le (Int.emod_lt_of_pos _ (by decide)) (by decide)
theorem w__law_of {T : Tk} {xs : List D} {k : KD} (hT : TkS T) (h0 : xs ≠ []) (h1 : xs.length < 1000000) (h : ∀ x T', x ∈ xs → TkS T' → k x T') : sm__law_of [.tank, .val (.tup xs)] T k := by
  rw [e__law_of, b__law_of]
  walk_at "ev"
  have hl : 0 < xs.length := List.length_pos_iff.mpr h0
  refine w__law_dip hT (by omega) (by omega) fun r T' h2 h3 hT' => ?_
  obtain ⟨n, rfl⟩ := Int.eq_ofNat_of_zero_le h2
  have hn : n < xs.length := by omega
  walk_at "ev"
  simp only [atI_nat', List.getElem?_eq_getElem hn, ixR_some]
  exact ⟨trivial, h _ _ (List.getElem_mem hn) hT'⟩
theorem w__law_whole {T : Tk} {w : Int} {k : KD} (hT : TkS T) (w0 : 0 ≤ w) (w1 : w ≤ 1000000000) (h : ∀ r T', -(w + 999) ≤ r → r ≤ w + 999 → (w ≤ 1000 → -w ≤ r ∧ r ≤ w) → TkS T' → k (.int r) T') : sm__law_whole [.tank, .val (.int w)] T k := by
  rw [e__law_whole, b__law_whole]
  walk_at "wk"
  refine iteB_of (fun e => ?_) (fun e => ?_)
  · walk_at "wk"
    refine ⟨lit_mul (by decide), ?_⟩
    refine w__law_dip hT (by omega) (by omega) fun r T' h2 h3 hT' => ?_
    walk_at "wk"
    exact h _ _ (by omega) (by omega) (fun _ => ⟨by omega, by omega⟩) hT'
  · have e : ¬ w ≤ 1000 := by simpa using e
    walk_at "wk"
    refine ⟨lit_div (by decide) (by decide), lit_mul (by decide), ?_⟩
    have d1 : 1000 * (w / 1000) + w % 1000 = w := Int.mul_ediv_add_emod w 1000
    have d2 : 0 ≤ w % 1000 := Int.emod_nonneg _ (by decide)
    generalize w / 1000 = q at *
    refine w__law_dip hT (by omega) (by omega) fun r T' h2 h3 hT' => ?_
    walk_at "wk"
    refine ⟨lit_div (by decide) (by decide), lit_mul (by decide), ?_⟩
    refine w__law_dip hT' (by decide) (by decide) fun r2 T2 h4 h5 hT2 => ?_
    walk_at "wk"
    refine h _ _ ?_ ?_ (fun x => absurd x e) hT2
    all_goals omega
theorem w__law_gcdI {T : Tk} {a b : Int} {k : KD} (h : k (.int (iGcd a b)) T) : sm__law_gcd [.val (.int a), .val (.int b)] T k := by
  rw [e__law_gcd, b__law_gcd]
  walk_at "wkn"
  unfold sWhile
  refine ⟨fun m ρ T' => T' = T ∧ ∃ l r : Int, 0 ≤ l ∧ 0 ≤ r ∧ m = r.toNat ∧ iGcd l r = iGcd a b ∧ ρ = [some (.val (.int a)), some (.val (.int b)), some (.val (.int l)), some (.val (.int r))], ⟨_, rfl, iAbs a, iAbs b, iAbs_nn a, iAbs_nn b, rfl, ?_, rfl⟩, ?_⟩
  · rw [iGcd_abs, iGcd_comm, iGcd_abs, iGcd_comm]
  rintro m ρ T' ⟨rfl, l, r, h1, h2, rfl, h4, rfl⟩
  walk_at "wk"
  refine iteB_of (fun e => ?_) (fun e => ?_)
  · have q : 0 < r := by simpa using e
    walk_at "wk"
    refine ⟨q, (l % r).toNat, ?_, r, l % r, h2, Int.emod_nonneg _ (by omega), rfl, ?_, rfl⟩
    · have := Int.emod_lt_of_pos l q
      omega
    · rw [← h4, iGcd_mod h1 q]
  · have q : ¬ 0 < r := by simpa using e
    have q : r = 0 := by omega
    subst q
    rw [← h4, iGcd_zero h1] at h
    walk_at "wk"
    exact h
theorem cut_loop {F : dEnds} {A B : Option SV} {T : Tk} : ∀ (ns : List Int) (g : Int) (c : Option SV), (∀ c', F.nx [A, some (.val (.int (gcdL g ns))), c'] T) →
    forL (gN 2) (sAsg (dCall 2 sm__law_gcd (aCons (dVar 1) (aCons (dVar 2) (aNil)))) (gN 1)) F (ns.map D.int) [A, some (.val (.int g)), c] T
  | [], g, c, h => by
    rw [List.map_nil]
    exact h c
  | n :: ns, g, c, h => by
    rw [List.map_cons, forL_c]
    walk_at "wkn"
    refine w__law_gcdI ?_
    walk_at "wkn"
    exact cut_loop (B := B) ns _ _ h
theorem w__law_cut {T : Tk} {ns : List Int} {k : KD} (hl : ns.length ≤ 1000000) {n : Int} (hn : n ∈ ns) (h0 : n ≠ 0) (hs : Sz 9000 n) (h : k (.tup ((lowL ns).map D.int)) T) : sm__law_cut [.val (.tup (ns.map D.int))] T k := by
  rw [e__law_cut, b__law_cut]
  walk_at "wkn"
  refine ⟨by rw [List.length_map]; exact hl, ?_⟩
  refine cut_loop (B := none) ns 0 _ fun c => ?_
  have hp := gcdL_pos hn h0
  have hd := sz_dvd (gcdL_dvd ns 0 n hn) h0 hs
  walk_at "wkn"
  refine ⟨by rw [List.length_map]; exact hl, ?_⟩
  refine lc_div (fun i => hd.divOk (Nat.le_refl _) hp) ns _ _ _ ?_
  walk_at "wkn"
  exact h
theorem w__law_rounds {T : Tk} {xs : List D} {k : KD} (h : ∀ r : Int, r = 2 ∨ r = 3 → k (.int r) T) : sm__law_rounds [.val (.scr xs)] T k := by
  rw [e__law_rounds, b__law_rounds]
  walk_at "ev"
  refine h _ ?_
  unfold iMax iMin
  split <;> split at * <;> omega

theorem sz_le {n : Nat} {b a : Int} (h1 : -b ≤ a) (h2 : a ≤ b) (h : b.toNat < 2 ^ n) : Sz n a := by
  unfold Sz
  omega
theorem w__law_timesG {T : Tk} {m n : Nat} {a b : Gi} {k : KD} (ha : Cz m (a.re, a.im)) (hb : Cz n (b.re, b.im)) (hm : m ≤ 100000) (hn : n ≤ 100000) (h : k (gD (a * b)) T) : sm__law_times [.val (gD a), .val (gD b)] T k := by
  rw [e__law_times, b__law_times]
  walk_at "wk"
  have hm' : m ≤ 400000 := by omega
  have hn' : n ≤ 400000 := by omega
  exact ⟨ha.1.mulOk hb.1 hm' hn', ha.2.mulOk hb.2 hm' hn', ha.1.mulOk hb.2 hm' hn', ha.2.mulOk hb.1 hm' hn', h⟩
theorem w__law_plusG {T : Tk} {a b : Gi} {k : KD} (h : k (gD (a + b)) T) : sm__law_plus [.val (gD a), .val (gD b)] T k := by
  rw [e__law_plus, b__law_plus]
  walk_at "wk"
  exact h
theorem w__law_minusU {T : Tk} {a : Gi} {k : KD} (h : k (gD (-a)) T) : sm__law_minus [.val (gD a)] T k := by
  rw [e__law_minus, b__law_minus]
  walk_at "wk"
  rw [Int.zero_sub, Int.zero_sub]
  exact h
theorem w__law_conjG {T : Tk} {a : Gi} {k : KD} (h : k (gD a.cj) T) : sm__law_conj [.val (gD a)] T k := by
  rw [e__law_conj, b__law_conj]
  walk_at "wk"
  rw [Int.zero_sub]
  exact h
theorem w__law_normG {T : Tk} {n : Nat} {a : Gi} {k : KD} (ha : Cz n (a.re, a.im)) (hn : n ≤ 100000) (h : k (.int a.nm) T) : sm__law_norm [.val (gD a)] T k := by
  rw [e__law_norm, b__law_norm]
  walk_at "wk"
  exact ⟨ha.1.mulOk ha.1 (by omega) (by omega), ha.2.mulOk ha.2 (by omega) (by omega), h⟩
theorem w__law_scaledG {T : Tk} {m n : Nat} {c : Int} {a : Gi} {k : KD} (hc : Sz m c) (ha : Cz n (a.re, a.im)) (hm : m ≤ 100000) (hn : n ≤ 100000) (h : k (gD (scG c a)) T) : sm__law_scaled [.val (.int c), .val (gD a)] T k := by
  rw [e__law_scaled, b__law_scaled]
  walk_at "wk"
  exact ⟨hc.mulOk ha.1 (by omega) (by omega), hc.mulOk ha.2 (by omega) (by omega), h⟩
theorem w__law_overG {T : Tk} {n : Nat} {x g : Gi} {k : KD} (s : Nz n (x * g)) (sg : Nz n g) (g0 : g ≠ 0) (hn : n ≤ 2000) (h : k (gD x) T) : sm__law_over [.val (gD (x * g)), .val (gD g)] T k := by
  rw [e__law_over, b__law_over]
  walk_at "wk"
  have p := Gi.nm_pos g0
  refine w__law_normG sg.cz (by omega) ?_
  walk_at "wk"
  refine w__law_conjG ?_
  walk_at "wk"
  refine w__law_timesG s.cz sg.cj.cz (by omega) (by omega) ?_
  have e1 : (x * g * g.cj).re = x.re * g.nm := by simp only [Gi.mul_re, Gi.mul_im, Gi.cj, Gi.nm]; grind
  have e2 : (x * g * g.cj).im = x.im * g.nm := by simp only [Gi.mul_re, Gi.mul_im, Gi.cj, Gi.nm]; grind
  have e : gD (x * g * g.cj) = .tup [.int (x.re * g.nm), .int (x.im * g.nm)] := by show D.tup [.int (x * g * g.cj).re, .int (x * g * g.cj).im] = _; rw [e1, e2]
  rw [e]
  walk_at "wk"
  have sn : Sz 9000 g.nm := (sz_nm sg).mono (by omega)
  rw [Int.mul_ediv_cancel _ (by omega), Int.mul_ediv_cancel _ (by omega)]
  exact ⟨sn.divOk (by decide) p, sn.divOk (by decide) p, h⟩
theorem w__law_deepG {T : Tk} {n : Nat} {a b : Gi} {k : KD} (ha : Nz n a) (hb : Nz n b) (hn : n ≤ 2000) (h : ∀ g, G2 g a b → Nz n g → k (gD g) T) : sm__law_deep [.val (gD a), .val (gD b)] T k := by
  rw [e__law_deep, b__law_deep]
  walk_at "wkn"
  unfold sWhile
  refine ⟨fun m ρ T' => T' = T ∧ ∃ (c d : Gi) (x y z : Option SV), ρ = [some (.val (gD c)), some (.val (gD d)), x, y, z] ∧ m = d.nm.toNat ∧ Nz n c ∧ Nz n d ∧ ∀ g, G2 g c d → G2 g a b, ⟨_, rfl, a, b, none, none, none, rfl, rfl, ha, hb, fun _ q => q⟩, ?_⟩
  rintro m ρ T' ⟨rfl, c, d, x, y, z, rfl, rfl, hc, hd, tr⟩
  walk_at "wkn"
  rw [dec_gi]
  by_cases d0 : d = 0
  · rw [if_neg (by rw [decide_eq_true d0]; decide)]
    subst d0
    walk_at "wkn"
    exact h c (tr c (G2.zero c)) hc
  have p := Gi.nm_pos d0
  rw [if_pos (decide_eq_false d0)]
  walk_at "wkn"
  refine w__law_normG hd.cz (by omega) ?_
  walk_at "wkn"
  refine w__law_conjG ?_
  walk_at "wkn"
  refine w__law_timesG hc.cz hd.cj.cz (by omega) (by omega) ?_
  walk_at "wkn"
  have hs : Sz 8000 d.nm := (sz_nm hd).mono (by omega)
  have dv := ((show Sz 2 2 by unfold Sz; decide).mul hs)
  refine ⟨lit_mul (by decide), lit_mul (by decide), dv.divOk (by decide) (by omega), lit_mul (by decide), lit_mul (by decide), dv.divOk (by decide) (by omega), ?_⟩
  have lt := nearG_nm (a := c) d0
  have nn := (c - nearG c d * d).nm_nn
  have h2 : Nz n (c - nearG c d * d) := by
    unfold Nz at hd ⊢
    omega
  have nq : Nz (n + 2) (nearG c d) := by
    refine Nz.dvd d0 ?_
    have e : d * nearG c d = c + -(c - nearG c d * d) := by grind
    rw [e]
    exact hc.add h2.neg
  refine w__law_timesG (a := nearG c d) (b := d) nq.cz hd.cz (by omega) (by omega) ?_
  walk_at "wkn"
  refine w__law_minusU ?_
  walk_at "wkn"
  refine w__law_plusG ?_
  rw [show c + -(nearG c d * d) = c - nearG c d * d by grind]
  walk_at "wkn"
  exact ⟨(c - nearG c d * d).nm.toNat, by omega, d, c - nearG c d * d, _, _, _, rfl, rfl, hd, h2, fun g hg => tr g (G2.step hg)⟩
theorem w__law_quarterG {T : Tk} {f : Gi} {k : KD} {n : Nat} (sf : Nz n f) (hn : n ≤ 90000) (f0 : f ≠ 0) (h : ∀ u, u.nm = 1 → Qf (u * f) → k (gD (u * f)) T) : sm__law_quarter [.val (gD f)] T k := by
  rw [e__law_quarter, b__law_quarter]
  have h' : ∀ u x y, Gi.mk x y = f * u → u.nm = 1 → Qf (Gi.mk x y) → k (.tup [.int x, .int y]) T := fun u x y e hu hq => by
    have e' : f * u = u * f := by grind
    have := h u hu (by rw [← e', ← e]; exact hq)
    rw [← e', ← e] at this
    exact this
  have qf : ∀ x y : Int, (decide (0 < x) && decide (0 ≤ y)) = true → Qf (Gi.mk x y) := fun x y e => by
    rw [Bool.and_eq_true, decide_eq_true_eq, decide_eq_true_eq] at e
    exact e
  have nq : ∀ x y : Int, (decide (0 < x) && decide (0 ≤ y)) = false → ¬(0 < x ∧ 0 ≤ y) := fun g g' e ⟨x, y⟩ => by
    rw [decide_eq_true x, decide_eq_true y] at e
    exact absurd e (by decide)
  walk_at "wki"
  refine iteB_of (fun e => ?_) (fun e1 => ?_)
  · walk_at "wki"
    exact h' 1 f.re f.im (by show f = f * 1; grind) rfl (qf _ _ e)
  walk_at "wki"
  refine iteB_of (fun e => ?_) (fun e2 => ?_)
  · walk_at "wki"
    refine h' ⟨0, 1⟩ _ _ ?_ rfl (qf _ _ e)
    exact Gi.ext' (by simp only [Gi.mul_re]; omega) (by simp only [Gi.mul_im]; omega)
  walk_at "wki"
  refine iteB_of (fun e => ?_) (fun e3 => ?_)
  · walk_at "wki"
    refine h' ⟨-1, 0⟩ _ _ ?_ rfl (qf _ _ e)
    exact Gi.ext' (by simp only [Gi.mul_re]; omega) (by simp only [Gi.mul_im]; omega)
  walk_at "wki"
  refine iteB_of (fun e => ?_) (fun e4 => ?_)
  · walk_at "wki"
    refine h' ⟨0, -1⟩ _ _ ?_ rfl (qf _ _ e)
    exact Gi.ext' (by simp only [Gi.mul_re]; omega) (by simp only [Gi.mul_im]; omega)
  exfalso
  have n1 := nq _ _ e1
  have n2 := nq _ _ e2
  have n3 := nq _ _ e3
  have n4 := nq _ _ e4
  have f0' : ¬(f.re = 0 ∧ f.im = 0) := fun z => f0 (Gi.eq0.mp z)
  omega
theorem lc_nzC {A0 A1 A2 A4 A5 A6 A7 A8 A9 A10 : Option SV} {K : List D → Tk → Prop} : ∀ (xs : List Gi) (c : Option SV) (acc : List D) (T : Tk), K (acc ++ (nzG xs).map gD) T →
    lcD [A0, A1, A2, c, A4, A5, A6, A7, A8, A9, A10] (cN 3) (dTst (dOp (oF fNe) (dVar 3) (dTup (aCons (dC (.int 0)) (aCons (dC (.int 0)) (aNil)))))) (dVar 3) K (xs.map gD) acc T
  | [], c, acc, T, h => by
    rw [nzG, List.map_nil, List.append_nil] at h
    exact h
  | x :: xs, c, acc, T, h => by
    show lcK _ _ _ _ _ (D.tup [.int x.re, .int x.im] :: xs.map gD) _ _
    walk_at "wk"
    by_cases q : x = 0
    · refine iteB_p (by rw [q]; rfl) ?_
      rw [nzG, if_pos q] at h
      exact lc_nzC xs _ _ _ h
    · refine iteB_n (by
        have : ¬(x.re = 0 ∧ x.im = 0) := fun z => q (Gi.eq0.mp z)
        simpa using this) ?_
      rw [nzG, if_neg q, List.map_cons] at h
      walk_at "wk"
      refine lc_nzC xs _ _ _ ?_
      rw [List.append_assoc]
      exact h
theorem w__law_chartG {T : Tk} {n : Nat} {f : Int} {N : G4} {k : KD} (s1 : Nz n N.1) (s2 : Nz n N.2.1) (s3 : Nz n N.2.2.1) (s4 : Nz n N.2.2.2) (hn : n ≤ 1999) (nz : fst4 N ≠ 0) (h : ∀ m, Fm n N m → k (mD f m) T) : sm__law_chart [.val (.int f), .val (.lst [gD N.1, gD N.2.1, gD N.2.2.1, gD N.2.2.2])] T k := by
  have z0 : Nz n 0 := by unfold Nz; rw [Gi.nm_of_zero]; exact Int.pow_pos (by decide)
  rw [e__law_chart, b__law_chart]
  walk_at "wk"
  refine w__law_deepG (a := 0) z0 s1 (by omega) fun g1 h1 n1 => ?_
  walk_at "wk"
  refine w__law_deepG n1 s2 (by omega) fun g2 h2 n2 => ?_
  walk_at "wk"
  refine w__law_deepG n2 s3 (by omega) fun g3 h3 n3 => ?_
  walk_at "wk"
  refine w__law_deepG n3 s4 (by omega) fun g ge ng => ?_
  have gd : GD g (N.1, N.2.1, N.2.2.1, N.2.2.2) := gd_of h1 h2 h3 ge
  clear h1 h2 h3 ge n1 n2 n3
  obtain ⟨N1, N2, N3, N4⟩ := N
  obtain ⟨⟨x1, q1⟩, ⟨x2, q2⟩, ⟨x3, q3⟩, ⟨x4, q4⟩, u, v, w, t, es⟩ := gd
  simp only at q1 q2 q3 q4
  subst q1 q2 q3 q4
  obtain ⟨g0, f0⟩ := fst4_zero (x := (x1, x2, x3, x4)) nz
  have y1 := Nz.dvd (a := x1) g0 (by rw [show g * x1 = x1 * g by grind]; exact s1)
  have y2 := Nz.dvd (a := x2) g0 (by rw [show g * x2 = x2 * g by grind]; exact s2)
  have y3 := Nz.dvd (a := x3) g0 (by rw [show g * x3 = x3 * g by grind]; exact s3)
  have y4 := Nz.dvd (a := x4) g0 (by rw [show g * x4 = x4 * g by grind]; exact s4)
  have nf := fst4_nz (x := (x1, x2, x3, x4)) y1 y2 y3 y4
  obtain ⟨r, er⟩ := nzG_head f0
  simp only at er
  walk_at "wk"
  refine w__law_overG s1 ng g0 (by omega) ?_
  walk_at "wk"
  refine w__law_overG s2 ng g0 (by omega) ?_
  walk_at "wk"
  refine w__law_overG s3 ng g0 (by omega) ?_
  walk_at "wk"
  refine w__law_overG s4 ng g0 (by omega) ?_
  walk_at "wkn"
  refine lc_nzC [x1, x2, x3, x4] _ _ _ ?_
  rw [er]
  walk_at "wk"
  refine w__law_quarterG nf (by omega) f0 fun U un qf => ?_
  have nU : Nz 1 U := by unfold Nz; rw [un]; decide
  have nUf : Nz (1 + n) (U * fst4 (x1, x2, x3, x4)) := nU.mul nf
  walk_at "wk"
  refine w__law_overG (x := U) (g := fst4 (x1, x2, x3, x4)) (n := 1 + n) nUf (nf.mono (by omega)) f0 (by omega) ?_
  have fin := h _ (fm_of' (x := (x1, x2, x3, x4)) (U := U) un (by rw [show fst4 (x1, x2, x3, x4) * U = U * fst4 (x1, x2, x3, x4) by grind]; exact qf) g0 ⟨u, v, w, t, es⟩ s1 s2 s3 s4)
  simp only [show ∀ x : Gi, x * U = U * x from fun x => by grind] at fin
  walk_at "wk"
  refine w__law_timesG nU.cz y1.cz (by omega) (by omega) ?_
  walk_at "wk"
  refine w__law_timesG nU.cz y2.cz (by omega) (by omega) ?_
  walk_at "wk"
  refine w__law_timesG nU.cz y3.cz (by omega) (by omega) ?_
  walk_at "wk"
  refine w__law_timesG nU.cz y4.cz (by omega) (by omega) ?_
  walk_at "wk"
  exact fin
/-- a row whose bend is not 0 -/
structure Mr (n : Nat) (r : R4) : Prop where
  one : gcdL 0 [r.1, r.2.1, r.2.2.1, r.2.2.2] = 1
  b0 : bnd r ≠ 0
  up : 0 < fnz [r.1, r.2.1, r.2.2.1, r.2.2.2]
  s : S4 n r
theorem Mr.rd {n : Nat} {r : R4} (h : Mr n r) (p : 0 < bnd r) : Rd n r := ⟨⟨h.one, p, h.s.s1, h.s.s2, h.s.s3, h.s.s4⟩, h.up⟩
theorem Rd.mr {n : Nat} {r : R4} (h : Rd n r) : Mr n r := ⟨h.one, by have := h.bend; omega, h.up, ⟨h.s1, h.s2, h.s3, h.s4⟩⟩
theorem S4.mono {m n : Nat} {r : R4} (h : S4 m r) (l : m ≤ n) : S4 n r := ⟨h.s1.mono l, h.s2.mono l, h.s3.mono l, h.s4.mono l⟩
theorem Mr.mono {m n : Nat} {r : R4} (h : Mr m r) (l : m ≤ n) : Mr n r := ⟨h.one, h.b0, h.up, h.s.mono l⟩
theorem mr_uniq {m n : Nat} {r r' : R4} (h : Mr m r) (h' : Mr n r') {g g' : Int} (g0 : g ≠ 0) (g0' : g' ≠ 0) (e : mulR g r = mulR g' r') : r = r' := by
  unfold mulR at e
  simp only [Prod.mk.injEq] at e
  obtain ⟨e1, e2, e3, e4⟩ := e
  have fz : ∀ (c : Int) (ns : List Int), c ≠ 0 → fnz (ns.map (c * ·)) = c * fnz ns := fun c ns hc => by
    induction ns with
    | nil => simp [fnz]
    | cons x xs ih =>
      rw [List.map_cons]
      unfold fnz
      by_cases q : x = 0
      · rw [if_pos q, if_pos (by rw [q, Int.mul_zero])]; exact ih
      · rw [if_neg q, if_neg (Int.mul_ne_zero hc q)]
  have e : [r.1, r.2.1, r.2.2.1, r.2.2.2].map (g * ·) = [r'.1, r'.2.1, r'.2.2.1, r'.2.2.2].map (g' * ·) := by simp only [List.map_cons, List.map_nil, e1, e2, e3, e4]
  have f := fz g [r.1, r.2.1, r.2.2.1, r.2.2.2] g0
  rw [e, fz g' _ g0'] at f
  have u := h.up
  have u' := h'.up
  have key : ∀ {a b : Int}, 0 < a → 0 < b → a * r.1 = b * r'.1 → a * r.2.1 = b * r'.2.1 → a * r.2.2.1 = b * r'.2.2.1 → a * r.2.2.2 = b * r'.2.2.2 → r = r' := fun {a b} ha hb q1 q2 q3 q4 => by
    have := gcd_uniq ha hb h.one h'.one (show [r.1, r.2.1, r.2.2.1, r.2.2.2].map (a * ·) = [r'.1, r'.2.1, r'.2.2.1, r'.2.2.2].map (b * ·) by simp only [List.map_cons, List.map_nil, q1, q2, q3, q4])
    obtain ⟨_, _, _, _⟩ := r
    obtain ⟨_, _, _, _⟩ := r'
    simpa using this
  rcases Int.lt_or_gt_of_ne g0 with c | c
  · have c' : g' < 0 := by
      rcases Int.lt_or_gt_of_ne g0' with d | d
      · exact d
      · have := Int.mul_pos d u'; have := Int.mul_neg_of_neg_of_pos c u; omega
    exact key (a := -g) (b := -g') (by omega) (by omega) (by rw [Int.neg_mul, Int.neg_mul, e1]) (by rw [Int.neg_mul, Int.neg_mul, e2]) (by rw [Int.neg_mul, Int.neg_mul, e3]) (by rw [Int.neg_mul, Int.neg_mul, e4])
  · have c' : 0 < g' := by
      rcases Int.lt_or_gt_of_ne g0' with d | d
      · have := Int.mul_neg_of_neg_of_pos d u'; have := Int.mul_pos c u; omega
      · exact d
    exact key c c' e1 e2 e3 e4
theorem mr_nz {a b c d : Int} (h0 : bnd (a, b, c, d) ≠ 0) : ∃ x ∈ [a, b, c, d], x ≠ 0 := by
  by_cases hb : b = 0
  · by_cases hc : c = 0
    · by_cases ha : a = 0
      · exfalso; subst ha hb hc; unfold bnd at h0; simp at h0
      · exact ⟨a, by simp, ha⟩
    · exact ⟨c, by simp, hc⟩
  · exact ⟨b, by simp, hb⟩
theorem mr_form {P : R4 → Prop} {n : Nat} {a b c d : Int} (h0 : bnd (a, b, c, d) ≠ 0) (s1 : Sz n a) (s2 : Sz n b) (s3 : Sz n c) (s4 : Sz n d) (h : ∀ (r : R4) (g : Int), g ≠ 0 → (a, b, c, d) = mulR g r → Mr n r → P r) :
    (0 < fnz (lowL [a, b, c, d]) → P (a / gcdL 0 [a, b, c, d], b / gcdL 0 [a, b, c, d], c / gcdL 0 [a, b, c, d], d / gcdL 0 [a, b, c, d])) ∧
    (¬ 0 < fnz (lowL [a, b, c, d]) → P (0 - a / gcdL 0 [a, b, c, d], 0 - b / gcdL 0 [a, b, c, d], 0 - c / gcdL 0 [a, b, c, d], 0 - d / gcdL 0 [a, b, c, d])) ∧
    fnz (lowL [a, b, c, d]) ≠ 0 ∧ ∃ x ∈ [a, b, c, d], x ≠ 0 ∧ Sz n x := by
  obtain ⟨x, hx, x0⟩ := mr_nz h0
  have hx' := hx
  have sx : Sz n x := by
    simp only [List.mem_cons, List.not_mem_nil, or_false] at hx
    rcases hx with rfl | rfl | rfl | rfl <;> assumption
  have hp := gcdL_pos hx x0
  have hb := lowL_back (ns := [a, b, c, d])
  have ho := lowL_gcd hp
  unfold lowL at hb ho ⊢
  generalize gcdL 0 [a, b, c, d] = g at *
  have t1 := s1.ediv (j := g)
  have t2 := s2.ediv (j := g)
  have t3 := s3.ediv (j := g)
  have t4 := s4.ediv (j := g)
  simp only [List.map_cons, List.map_nil, List.cons.injEq, and_true] at hb ho ⊢
  obtain ⟨b1, b2, b3, b4⟩ := hb
  generalize a / g = x1 at *
  generalize b / g = x2 at *
  generalize c / g = x3 at *
  generalize d / g = x4 at *
  subst b1 b2 b3 b4
  have e : bnd (g * x1, g * x2, g * x3, g * x4) = g * g * bnd (x1, x2, x3, x4) := by unfold bnd; simp only; grind
  have b0 : bnd (x1, x2, x3, x4) ≠ 0 := fun z => h0 (by rw [e, z, Int.mul_zero])
  have fz : fnz [x1, x2, x3, x4] ≠ 0 := fun z => by
    have z := fnz_zero _ z
    apply b0
    unfold bnd
    simp only
    rw [z x1 (by simp), z x2 (by simp), z x3 (by simp)]
    simp
  refine ⟨fun q => h _ g (by omega) rfl ⟨ho, b0, q, ⟨t1, t2, t3, t4⟩⟩, fun q => h _ (-g) (by omega) ?_ ⟨?_, ?_, ?_, ?_⟩, fz, x, hx', x0, sx⟩
  · unfold mulR
    simp only [Int.zero_sub, Int.neg_mul_neg]
  · have := gcdL_neg [x1, x2, x3, x4] 0
    rw [ho] at this
    exact this
  · have e2 : bnd (0 - x1, 0 - x2, 0 - x3, 0 - x4) = bnd (x1, x2, x3, x4) := by unfold bnd; simp only; grind
    rw [e2]
    exact b0
  · have := fnz_neg [x1, x2, x3, x4]
    show 0 < fnz ([x1, x2, x3, x4].map fun x => 0 - x)
    omega
  · simp only [Int.zero_sub]
    exact ⟨t1.neg, t2.neg, t3.neg, t4.neg⟩
theorem lc_filt2 {A B : Option SV} {K : List D → Tk → Prop} : ∀ (ns : List Int) (c : Option SV) (acc : List D) (T : Tk), K (acc ++ (ns.filter fun x => !decide (x = 0)).map D.int) T →
    lcD [A, B, c] (cN 2) (dTst (dOp (oF fNe) (dVar 2) (dC (.int 0)))) (dVar 2) K (ns.map D.int) acc T
  | [], c, acc, T, h => by
    rw [List.filter_nil, List.map_nil, List.append_nil] at h
    exact h
  | n :: ns, c, acc, T, h => by
    rw [List.map_cons]
    walk_at "ev"
    by_cases q : n = 0
    · rw [if_neg (not_not_intro q)]
      rw [List.filter_cons_of_neg (by simp [q])] at h
      exact lc_filt2 ns _ _ _ h
    · rw [if_pos q]
      rw [List.filter_cons_of_pos (by simp [q]), List.map_cons] at h
      refine lc_filt2 ns _ _ _ ?_
      rw [List.append_assoc]
      exact h
theorem lc_neg2 {A B : Option SV} {K : List D → Tk → Prop} : ∀ (ns : List Int) (c : Option SV) (acc : List D) (T : Tk), K (acc ++ (ns.map fun x => 0 - x).map D.int) T →
    lcD [A, B, c] (cN 2) dYes (dOp (oF fSub) (dC (.int 0)) (dVar 2)) K (ns.map D.int) acc T
  | [], c, acc, T, h => by
    rw [List.map_nil, List.map_nil, List.append_nil] at h
    exact h
  | n :: ns, c, acc, T, h => by
    rw [List.map_cons]
    walk_at "ev"
    refine lc_neg2 ns _ _ _ ?_
    rw [List.append_assoc]
    exact h
theorem w__law_formM {T : Tk} {n : Nat} {a b c d : Int} {k : KD} (h0 : bnd (a, b, c, d) ≠ 0) (s1 : Sz n a) (s2 : Sz n b) (s3 : Sz n c) (s4 : Sz n d) (hn : n ≤ 9000) (h : ∀ (r : R4) (g : Int), g ≠ 0 → (a, b, c, d) = mulR g r → Mr n r → k (rD r) T) : sm__law_form [.val (.tup [.int a, .int b, .int c, .int d])] T k := by
  obtain ⟨f1, f2, f3, x, x1, x2, x3⟩ := mr_form (P := fun r => k (rD r) T) h0 s1 s2 s3 s4 h
  rw [e__law_form, b__law_form]
  walk_at "ev"
  refine w__law_cut (ns := [a, b, c, d]) (by simp) x1 x2 (x3.mono hn) ?_
  walk_at "ev"
  have hl : (lowL [a, b, c, d]).length ≤ 1000000 := by simp [lowL]
  refine ⟨by simpa using hl, ?_⟩
  refine lc_filt2 _ _ _ _ ?_
  rw [List.nil_append]
  walk_at "ev"
  rw [filt_head _ f3]
  walk_at "ev"
  by_cases q : 0 < fnz (lowL [a, b, c, d])
  · rw [if_pos q]
    exact f1 q
  · rw [if_neg q]
    refine ⟨by simpa using hl, ?_⟩
    refine lc_neg2 _ _ _ _ ?_
    exact f2 q
theorem w__law_formR {T : Tk} {n : Nat} {r : R4} {k : KD} (h0 : 0 < bnd r) (s : S4 n r) (hn : n ≤ 9000) (h : ∀ (t : R4) (g : Int), g ≠ 0 → r = mulR g t → Rd n t → k (rD t) T) : sm__law_form [.val (rD r)] T k := by
  obtain ⟨a, b, c, d⟩ := r
  refine w__law_formM (Int.ne_of_gt h0) s.s1 s.s2 s.s3 s.s4 hn fun t g g0 e ht => h t g g0 e (ht.rd ?_)
  rw [e, bnd_mulR] at h0
  rcases Int.lt_or_le 0 (bnd t) with q | q
  · exact q
  · have := Int.mul_nonpos_of_nonneg_of_nonpos (mul_self_nonneg' g) q
    omega
theorem w_first_aboveM {T : Tk} {n : Nat} {a b c d : Int} {k : KD} (h0 : bnd (a, b, c, d) ≠ 0) (s1 : Sz n a) (s2 : Sz n b) (s3 : Sz n c) (s4 : Sz n d) (hn : n ≤ 9000) (h : ∀ (r : R4) (g : Int), g ≠ 0 → (a, b, c, d) = mulR g r → Mr n r → k (rD r) T) : sm_first_above [.val (.tup [.int a, .int b, .int c, .int d])] T k := by
  obtain ⟨f1, f2, f3, x, x1, x2, x3⟩ := mr_form (P := fun r => k (rD r) T) h0 s1 s2 s3 s4 h
  rw [e_first_above, b_first_above]
  walk_at "ev"
  refine w_lowest (ns := [a, b, c, d]) (by simp) x1 x2 (x3.mono hn) ?_
  have hq : (lowL [a, b, c, d]).map D.int = [.int (a / gcdL 0 [a, b, c, d]), .int (b / gcdL 0 [a, b, c, d]), .int (c / gcdL 0 [a, b, c, d]), .int (d / gcdL 0 [a, b, c, d])] := rfl
  rw [hq]
  walk_at "ev"
  refine w_is_led_up4 ?_
  walk_at "ev"
  by_cases q : 0 < fnz (lowL [a, b, c, d])
  · rw [if_pos (show 0 < fnz [a / gcdL 0 [a, b, c, d], b / gcdL 0 [a, b, c, d], c / gcdL 0 [a, b, c, d], d / gcdL 0 [a, b, c, d]] from q)]
    exact f1 q
  · rw [if_neg (show ¬ 0 < fnz [a / gcdL 0 [a, b, c, d], b / gcdL 0 [a, b, c, d], c / gcdL 0 [a, b, c, d], d / gcdL 0 [a, b, c, d]] from q)]
    have fin := f2 q
    simp only [Int.zero_sub] at fin
    exact fin
theorem isq_nonneg (n : Int) : 0 ≤ isq n := Int.natCast_nonneg _
theorem isq_spec {n : Int} (h : 0 ≤ n) : isq n * isq n ≤ n ∧ n < (isq n + 1) * (isq n + 1) := by
  obtain ⟨m, rfl⟩ := Int.eq_ofNat_of_zero_le h
  have := Float64.isqrt_spec m
  unfold isq
  rw [Int.toNat_natCast]
  generalize Float64.isqrt m = r at *
  constructor
  · exact_mod_cast this.1
  · exact_mod_cast this.2
theorem sq_le_of {a b : Int} (ha : 0 ≤ a) (hb : 0 ≤ b) (h : a * a < (b + 1) * (b + 1)) : a ≤ b := by
  rcases Int.lt_or_le b a with q | q
  · have h1 : b + 1 ≤ a := by omega
    have := Int.mul_le_mul h1 h1 (by omega) ha
    omega
  · exact q
theorem isq_of {n r : Int} (h0 : 0 ≤ r) (h1 : r * r ≤ n) (h2 : n < (r + 1) * (r + 1)) : isq n = r := by
  have hn : 0 ≤ n := Int.le_trans (mul_self_nonneg' r) h1
  obtain ⟨a, b⟩ := isq_spec hn
  have := sq_le_of h0 (isq_nonneg n) (Int.lt_of_le_of_lt h1 b)
  have := sq_le_of (isq_nonneg n) h0 (Int.lt_of_le_of_lt a h2)
  omega
theorem isq_sq {m : Int} (h : 0 ≤ m) : isq (m * m) = m := isq_of h (Int.le_refl _) (by grind)
theorem isgn0' {a : Int} : isgn a = 0 ↔ a = 0 := by
  unfold isgn
  split
  · constructor <;> intro h <;> omega
  · split <;> constructor <;> intro h <;> omega
theorem mulR_inj {r : R4} (b : bnd r ≠ 0) {c c' : Int} (e : mulR c r = mulR c' r) : c = c' := by
  obtain ⟨x1, x2, x3, x4⟩ := r
  obtain ⟨x, hx, x0⟩ := mr_nz b
  unfold mulR at e
  simp only [Prod.mk.injEq] at e
  simp only [List.mem_cons, List.not_mem_nil, or_false] at hx
  have key : ∀ y : Int, y ≠ 0 → c * y = c' * y → c = c' := fun y y0 h => Int.eq_of_mul_eq_mul_right y0 h
  rcases hx with rfl | rfl | rfl | rfl
  · exact key _ x0 e.1
  · exact key _ x0 e.2.1
  · exact key _ x0 e.2.2.1
  · exact key _ x0 e.2.2.2
theorem mr_ex {n : Nat} {r : R4} (h0 : bnd r ≠ 0) (s : S4 n r) : ∃ t g, g ≠ 0 ∧ r = mulR g t ∧ Mr n t := by
  obtain ⟨a, b, c, d⟩ := r
  obtain ⟨f1, f2, _⟩ := mr_form (P := fun _ => ∃ t g, g ≠ 0 ∧ (a, b, c, d) = mulR g t ∧ Mr n t) h0 s.s1 s.s2 s.s3 s.s4 fun r g g0 e h => ⟨r, g, g0, e, h⟩
  by_cases q : 0 < fnz (lowL [a, b, c, d])
  · exact f1 q
  · exact f2 q
/-- the way in which a map keeps a round -/
def Kp (f : Int) (m : G4) (r : R4) (v : Int) : Prop := (∃ c, c ≠ 0 ∧ RB f m r = mulR c r ∧ v = isgn c) ∨ (v = 0 ∧ ∀ c, RB f m r ≠ mulR c r)
theorem Kp.uniq {f : Int} {m : G4} {r : R4} {v v' : Int} (b : bnd r ≠ 0) (h : Kp f m r v) (h' : Kp f m r v') : v = v' := by
  rcases h with ⟨c, c0, e, rfl⟩ | ⟨rfl, h⟩
  · rcases h' with ⟨c', c0', e', rfl⟩ | ⟨rfl, h'⟩
    · rw [mulR_inj b (e.symm.trans e')]
    · exact absurd e (h' c)
  · rcases h' with ⟨c', c0', e', rfl⟩ | ⟨rfl, h'⟩
    · exact absurd e' (h c')
    · rfl
theorem isgn_pos {a : Int} (h : 0 < a) : isgn a = 1 := by unfold isgn; rw [if_pos h]
theorem isgn_ng {a : Int} (h : a < 0) : isgn a = -1 := by unfold isgn; rw [if_neg (by omega), if_pos h]
theorem isgn_mul (a b : Int) : isgn (a * b) = isgn a * isgn b := by
  rcases Int.lt_trichotomy a 0 with h | rfl | h
  · rcases Int.lt_trichotomy b 0 with q | rfl | q
    · rw [isgn_ng h, isgn_ng q, isgn_pos (Int.mul_pos_of_neg_of_neg h q)]; rfl
    · rw [Int.mul_zero]; show isgn 0 = isgn a * 0; rw [Int.mul_zero]; rfl
    · rw [isgn_ng h, isgn_pos q, isgn_ng (Int.mul_neg_of_neg_of_pos h q)]; rfl
  · rw [Int.zero_mul]; show isgn 0 = 0 * isgn b; rw [Int.zero_mul]; rfl
  · rcases Int.lt_trichotomy b 0 with q | rfl | q
    · rw [isgn_pos h, isgn_ng q, isgn_ng (Int.mul_neg_of_pos_of_neg h q)]; rfl
    · rw [Int.mul_zero]; show isgn 0 = isgn a * 0; rw [Int.mul_zero]; rfl
    · rw [isgn_pos h, isgn_pos q, isgn_pos (Int.mul_pos h q)]; rfl
theorem isgn_sq {a : Int} (h : a ≠ 0) : isgn a * isgn a = 1 := by
  rcases Int.lt_or_gt_of_ne h with q | q
  · rw [isgn_ng q]; rfl
  · rw [isgn_pos q]; rfl
/-- along with the row is enough -/
theorem Kp.of {l n : Nat} {f a b : Int} {m : G4} {r : R4} (hr : Rd l r) (hd : dtG m ≠ 0) (s : S4 n (RB f m r)) (a0 : a ≠ 0) (b0 : b ≠ 0) (e : mulR a (RB f m r) = mulR b r) : Kp f m r (isgn (a * b)) := by
  have bb : bnd (RB f m r) ≠ 0 := by
    rw [bnd_rb]
    exact Int.mul_ne_zero (by have := Gi.nm_pos hd; omega) (by have := hr.bend; omega)
  obtain ⟨t, g, g0, et, ht⟩ := mr_ex bb s
  rw [et, mulR_mulR] at e
  have e1 := mr_uniq ht hr.mr (Int.mul_ne_zero a0 g0) b0 e
  subst e1
  have e2 := mulR_inj ht.b0 e
  refine .inl ⟨g, g0, et, ?_⟩
  rw [← e2, ← Int.mul_assoc, isgn_mul, isgn_mul, isgn_sq a0, Int.one_mul]
theorem Kp.zero {f : Int} {m : G4} {r : R4} {v : Int} (h : Kp f m r v) : v = 0 ↔ ∀ c, RB f m r ≠ mulR c r := by
  rcases h with ⟨c, c0, e, rfl⟩ | ⟨rfl, h⟩
  · constructor
    · intro z
      exact absurd (isgn0'.mp z) c0
    · intro z
      exact absurd e (z c)
  · exact ⟨fun _ => h, fun _ => rfl⟩
/-- what is kept in one way is kept so by the map after it -/
theorem Kp.two {l n p : Nat} {f g : Int} {m k x : G4} {r : R4} {c d : Int} (hr : Rd l r) (hf : f = 0 ∨ f = 1) (hg : g = 0 ∨ g = 1) (hx : Fm n (Pr f m k) x) (s : S4 p (RB ((f + g) % 2) x r)) (hd : dtG x ≠ 0) (c0 : c ≠ 0) (d0 : d ≠ 0) (e : RB f m r = mulR c r) (e2 : RB g k r = mulR d r) : Kp ((f + g) % 2) x r (isgn c * isgn d) := by
  obtain ⟨y, y0, ey⟩ := hx.c
  have k1 : RB ((f + g) % 2) (Pr f m k) r = mulR (c * d) r := by
    rw [show (f + g) % 2 = (g + f) % 2 by rw [Int.add_comm], ← rb_comp hg hf, e, rb_mul, e2, mulR_mulR]
  rw [ey, rb_scl] at k1
  have np := Gi.nm_pos y0
  have := Kp.of hr hd s (by omega) (Int.mul_ne_zero c0 d0) k1
  rw [isgn_mul, isgn_pos np, Int.one_mul, isgn_mul] at this
  exact this
theorem Kp.bk {l n p : Nat} {f : Int} {m x : G4} {r : R4} {c : Int} (hr : Rd l r) (hf : f = 0 ∨ f = 1) (hm : dtG m ≠ 0) (hx : Fm n (Bk f m) x) (s : S4 p (RB f x r)) (hd : dtG x ≠ 0) (c0 : c ≠ 0) (e : RB f m r = mulR c r) : Kp f x r (isgn c) := by
  obtain ⟨y, y0, ey⟩ := hx.c
  have k1 := rb_back' hf m r
  rw [e, rb_mul, ey, rb_scl, mulR_mulR] at k1
  have np := Gi.nm_pos y0
  have nd := Gi.nm_pos hm
  have := Kp.of hr hd s (Int.mul_ne_zero c0 (by omega)) (by omega) k1
  rw [isgn_mul, isgn_mul, isgn_pos np, isgn_pos nd, Int.mul_one, Int.mul_one] at this
  exact this
abbrev axR : R4 := (0, 0, 1, 0)
local macro_rules | `(tactic| walk_at "gz") => `(tactic| (repeat' (first | assumption | exact sz2x | exact szm2x | apply Cz.mulG | apply Cz.addG | apply Cz.cjG | apply Cz.scG | apply Cz.reG | apply Cz.imG | apply Sz.mul | apply Sz.neg)))
local macro_rules | `(tactic| walk_at "mk") => `(tactic| (apply Sz.mulOk; (repeat' (first | assumption | exact sz2x | exact szm2x | apply Cz.reG | apply Cz.imG | apply Cz.mulG | apply Cz.addG | apply Cz.cjG | apply Cz.scG | apply Sz.mul | apply Sz.add | apply Sz.sub | apply Sz.neg)); all_goals omega))
local macro_rules | `(tactic| walk_at "sw") => `(tactic| ((first | with_reducible refine w__law_conjG ?_ | with_reducible refine w__law_timesG (by walk_at "gz") (by walk_at "gz") (by omega) (by omega) ?_ | with_reducible refine w__law_normG (by walk_at "gz") (by omega) ?_ | with_reducible refine w__law_scaledG (by walk_at "gz") (by walk_at "gz") (by omega) (by omega) ?_ | with_reducible refine w__law_plusG ?_ | with_reducible refine And.intro (by walk_at "mk") ?_); walk_at "wk"))
theorem w__law_row_backW {T : Tk} {n l : Nat} {f : Int} {m : G4} {r : R4} {k : KD} (hf : f = 0 ∨ f = 1) (hm : N4 n m) (hr : S4 l r) (hn : 2 * n + l ≤ 20000) (h : k (rD (RB f m r)) T) : sm__law_row_back [.val (mD f m), .val (rD r)] T k := by
  have A1 := hm.s1.cz
  have A2 := hm.s2.cz
  have A3 := hm.s3.cz
  have A4 := hm.s4.cz
  have N1 := sz_nm hm.s1
  have N2 := sz_nm hm.s2
  have N3 := sz_nm hm.s3
  have N4 := sz_nm hm.s4
  have q1 := hr.s1
  have q4 := hr.s4
  have B1 := cz_be hr
  have B2 := cz_bt hr
  have key : ∀ d, d = rD (RB f m r) → k d T := fun d e => by rw [e]; exact h
  clear h
  obtain ⟨a, b, c, d⟩ := m
  simp only at A1 A2 A3 A4 N1 N2 N3 N4
  rw [e__law_row_back, b__law_row_back]
  rcases hf with rfl | rfl
  · walk_at "wk"
    rw [Int.zero_sub, show D.tup [.int r.2.1, .int (-r.2.2.1)] = gD (be r) from rfl]
    repeat (walk_at "sw")
    rw [show D.tup [.int r.2.1, .int r.2.2.1] = gD (bt r) from rfl]
    repeat (walk_at "sw")
    refine key _ ?_
    clear key hm A1 A2 A3 A4 N1 N2 N3 N4 B1 B2 q1 q4 hr hn
    obtain ⟨q, l, n, k⟩ := r
    obtain ⟨a, a'⟩ := a
    obtain ⟨b, b'⟩ := b
    obtain ⟨c, c'⟩ := c
    obtain ⟨d, d'⟩ := d
    refine congrArg D.tup ?_
    simp only [List.cons.injEq, D.int.injEq, and_true]
    refine ⟨?_, ?_, ?_, ?_⟩
    all_goals simp only [RB, flR, RB0, bt, be, scG, Gi.nm, Gi.cj, Gi.mul_re, Gi.mul_im, Gi.add_re, Gi.add_im, Int.reduceEq, if_true, if_false, reduceIte] <;> grind
  · walk_at "wk"
    rw [Int.zero_sub, show D.tup [.int r.2.1, .int (-r.2.2.1)] = gD (be r) from rfl]
    repeat (walk_at "sw")
    rw [show D.tup [.int r.2.1, .int r.2.2.1] = gD (bt r) from rfl]
    repeat (walk_at "sw")
    refine key _ ?_
    clear key hm A1 A2 A3 A4 N1 N2 N3 N4 B1 B2 q1 q4 hr hn
    obtain ⟨q, l, n, k⟩ := r
    obtain ⟨a, a'⟩ := a
    obtain ⟨b, b'⟩ := b
    obtain ⟨c, c'⟩ := c
    obtain ⟨d, d'⟩ := d
    refine congrArg D.tup ?_
    simp only [List.cons.injEq, D.int.injEq, and_true]
    refine ⟨?_, ?_, ?_, ?_⟩
    all_goals simp only [RB, flR, RB0, bt, be, scG, Gi.nm, Gi.cj, Gi.mul_re, Gi.mul_im, Gi.add_re, Gi.add_im, Int.reduceEq, if_true, if_false, reduceIte] <;> grind
theorem w__law_backW {T : Tk} {f : Int} {m : G4} {k : KD} (hf : f = 0 ∨ f = 1) (h : k (mD f (Bk f m)) T) : sm__law_back [.val (mD f m)] T k := by
  obtain ⟨a, b, c, d⟩ := m
  rw [e__law_back, b__law_back]
  walk_at "wk"
  by_cases z : f = 1
  · subst z
    refine iteB_p (by decide) ?_
    walk_at "wk"
    refine w__law_conjG ?_
    walk_at "wk"
    refine w__law_conjG ?_
    walk_at "wk"
    refine w__law_conjG ?_
    walk_at "wk"
    refine w__law_conjG ?_
    walk_at "wk"
    refine w__law_minusU ?_
    walk_at "wk"
    refine w__law_minusU ?_
    walk_at "wk"
    have e : Bk 1 (a, b, c, d) = (d.cj, -b.cj, -c.cj, a.cj) := by
      unfold Bk flm adjm fl
      simp only [if_true, Prod.mk.injEq, and_true, true_and]
      exact ⟨rfl, rfl⟩
    rw [e] at h
    exact h
  · have z0 : f = 0 := hf.resolve_right z
    subst z0
    refine iteB_n (by decide) ?_
    walk_at "wk"
    refine w__law_minusU ?_
    walk_at "wk"
    refine w__law_minusU ?_
    walk_at "wk"
    have e : Bk 0 (a, b, c, d) = (d, -b, -c, a) := rfl
    rw [e] at h
    exact h
theorem w__law_fourW {T : Tk} {n : Nat} {w : Int} {k : KD} (hT : TkS T) (w1 : 1 ≤ w) (w2 : w ≤ 1000000) (hw : (w + 999).toNat < 2 ^ n) (hn : n ≤ 60) (h : ∀ (N : G4) T', N4 (2 * n + 4) N → dtG N ≠ 0 → TkS T' → k (.lst [gD N.1, gD N.2.1, gD N.2.2.1, gD N.2.2.2]) T') : sm__law_four [.tank, .val (.int w)] T k := by
  have hp : ∀ r : Int, -(w + 999) ≤ r → r ≤ w + 999 → Sz n r := fun r r0 r1 => sz_le r0 r1 hw
  rw [e__law_four, b__law_four]
  walk_at "wki"
  refine w__law_whole hT (by omega) (by omega) fun a1 T1 a2 a3 _ hT1 => ?_
  walk_at "wki"
  refine w__law_whole hT1 (by omega) (by omega) fun b1 T2 b2 b3 _ hT2 => ?_
  walk_at "wki"
  refine w__law_whole hT2 (by omega) (by omega) fun c1 T3 c2 c3 _ hT3 => ?_
  walk_at "wki"
  refine w__law_whole hT3 (by omega) (by omega) fun d1 T4 d2 d3 _ hT4 => ?_
  walk_at "wki"
  refine w__law_whole hT4 (by omega) (by omega) fun e1 T5 e2 e3 _ hT5 => ?_
  walk_at "wki"
  refine w__law_whole hT5 (by omega) (by omega) fun f1 T6 f2 f3 _ hT6 => ?_
  walk_at "wki"
  refine w__law_whole hT6 (by omega) (by omega) fun g1 T7 g2 g3 _ hT7 => ?_
  walk_at "wki"
  refine w__law_whole hT7 (by omega) (by omega) fun h1 T8 h2 h3 _ hT8 => ?_
  obtain ⟨a, ea⟩ : ∃ a : Gi, a = ⟨a1, b1⟩ := ⟨_, rfl⟩
  obtain ⟨b, eb⟩ : ∃ a : Gi, a = ⟨c1, d1⟩ := ⟨_, rfl⟩
  obtain ⟨c, ec⟩ : ∃ a : Gi, a = ⟨e1, f1⟩ := ⟨_, rfl⟩
  obtain ⟨d, ed⟩ : ∃ a : Gi, a = ⟨g1, h1⟩ := ⟨_, rfl⟩
  have da : D.tup [.int a1, .int b1] = gD a := by rw [ea]
  have db : D.tup [.int c1, .int d1] = gD b := by rw [eb]
  have dc : D.tup [.int e1, .int f1] = gD c := by rw [ec]
  have dd : D.tup [.int g1, .int h1] = gD d := by rw [ed]
  have na : Cz n (a.re, a.im) := by rw [ea]; exact ⟨hp _ a2 a3, hp _ b2 b3⟩
  have nb : Cz n (b.re, b.im) := by rw [eb]; exact ⟨hp _ c2 c3, hp _ d2 d3⟩
  have nc : Cz n (c.re, c.im) := by rw [ec]; exact ⟨hp _ e2 e3, hp _ f2 f3⟩
  have nd : Cz n (d.re, d.im) := by rw [ed]; exact ⟨hp _ g2 g3, hp _ h2 h3⟩
  walk_at "wki"
  rw [da, db, dc, dd]
  have nz : ∀ {x : Gi}, Cz n (x.re, x.im) → Nz (2 * n + 4) x := fun hx => (nz_cz hx).mono (by omega)
  have c10 : Cz n ((1 : Gi).re, (1 : Gi).im) := ⟨hp 1 (by omega) (by omega), hp 0 (by omega) (by omega)⟩
  have c00 : Cz n ((0 : Gi).re, (0 : Gi).im) := ⟨hp 0 (by omega) (by omega), hp 0 (by omega) (by omega)⟩
  have c01 : Cz n ((⟨0, 1⟩ : Gi).re, (⟨0, 1⟩ : Gi).im) := ⟨hp 0 (by omega) (by omega), hp 1 (by omega) (by omega)⟩
  refine w__law_timesG na nd (by omega) (by omega) ?_
  walk_at "wki"
  refine w__law_timesG nb nc (by omega) (by omega) ?_
  walk_at "wki"
  rw [gi_dc]
  by_cases z : a * d = b * c
  · refine iteB_p (decide_eq_true z) ?_
    walk_at "wki"
    rw [dec_gi]
    by_cases y : a = 0
    · refine iteB_p (decide_eq_true y) ?_
      walk_at "wki"
      refine h (1, b, 0, ⟨0, 1⟩) T8 ⟨nz c10, nz nb, nz c00, nz c01⟩ ?_ hT8
      unfold dtG
      simp only
      intro e
      have := congrArg Gi.im e
      simp only [Gi.sub_im, Gi.mul_im] at this
      rw [show (1 : Gi).re = 1 from rfl, show (1 : Gi).im = 0 from rfl, show (0 : Gi).re = 0 from rfl, show (0 : Gi).im = 0 from rfl] at this
      omega
    · refine iteB_n (decide_eq_false y) ?_
      walk_at "wki"
      refine h (a, b, c, ⟨d.re + 1, d.im⟩) T8 ⟨nz na, nz nb, nz nc, ?_⟩ ?_ hT8
      · exact (nz_of (n := n + 1) (nd.1.add (hp 1 (by omega) (by omega)) |>.mono (by omega)) (nd.2.mono (by omega))).mono (by omega)
      · unfold dtG
        simp only
        intro e
        apply y
        have e2 : a * (⟨d.re + 1, d.im⟩ : Gi) - b * c = a + (a * d - b * c) := Gi.ext' (by simp only [Gi.sub_re, Gi.add_re, Gi.mul_re]; grind) (by simp only [Gi.sub_im, Gi.add_im, Gi.mul_im]; grind)
        rw [e2, z] at e
        grind
  · refine iteB_n (decide_eq_false z) ?_
    walk_at "wki"
    refine h (a, b, c, d) T8 ⟨nz na, nz nb, nz nc, nz nd⟩ ?_ hT8
    unfold dtG
    simp only
    intro e
    apply z
    grind
theorem w__law_mapW {T : Tk} {n : Nat} {w : Int} {k : KD} (hT : TkS T) (w1 : 1 ≤ w) (w2 : w ≤ 1000000) (hw : (w + 999).toNat < 2 ^ n) (hn : n ≤ 60) (h : ∀ f m T', Mq (2 * n + 4) f m → TkS T' → k (mD f m) T') : sm__law_map [.tank, .val (.int w)] T k := by
  rw [e__law_map, b__law_map]
  walk_at "wk"
  refine w__law_dip hT (by decide) (by decide) fun f T1 f0 f1 hT1 => ?_
  walk_at "wk"
  refine w__law_fourW hT1 w1 w2 hw hn fun N T2 hN hd hT2 => ?_
  walk_at "wk"
  exact w__law_chartG hN.s1 hN.s2 hN.s3 hN.s4 (by omega) (dt_fst hd) fun m hm => h f m T2 (hm.mq (by omega) hd) hT2

def mixR2 (a : Int) (x : R4) (b : Int) (y : R4) : R4 := addR (mulR a x) (mulR b y)
theorem bnd_mix (a b : Int) (x y : R4) : bnd (mixR2 a x b y) = a * a * bnd x + b * b * bnd y + 2 * (a * b) * jn x y := by
  unfold mixR2
  rw [bnd_addR, bnd_mulR, bnd_mulR, jn_mulR]
  grind
theorem w_mixedR {T : Tk} {m n : Nat} {a b : Int} {x y : R4} {k : KD} (ha : Sz m a) (hx : S4 n x) (hb : Sz m b) (hy : S4 n y) (hm : m ≤ 100000) (hn : n ≤ 100000) (h : k (rD (mixR2 a x b y)) T) : sm_mixed [.val (.int a), .val (rD x), .val (.int b), .val (rD y)] T k := by
  have e : rD (mixR2 a x b y) = .tup [.int (a * x.1 + b * y.1), .int (a * x.2.1 + b * y.2.1), .int (a * x.2.2.1 + b * y.2.2.1), .int (a * x.2.2.2 + b * y.2.2.2)] := rfl
  rw [e] at h
  rw [e_mixed, b_mixed]
  walk_at "wki"
  exact ⟨ha.mulOk hx.s1 (by omega) (by omega), hb.mulOk hy.s1 (by omega) (by omega), ha.mulOk hx.s2 (by omega) (by omega), hb.mulOk hy.s2 (by omega) (by omega), ha.mulOk hx.s3 (by omega) (by omega), hb.mulOk hy.s3 (by omega) (by omega), ha.mulOk hx.s4 (by omega) (by omega), hb.mulOk hy.s4 (by omega) (by omega), h⟩
def i4 (t : R4) : List Int := [t.1, t.2.1, t.2.2.1, t.2.2.2]
def toR (n : List Int) : R4 := (n.getD 0 0, n.getD 1 0, n.getD 2 0, n.getD 3 0)
/-- rounds in their order -/
def srR (l : List R4) : List R4 := (isort (l.map i4)).map toR
theorem srR_i4 (l : List R4) : (srR l).map i4 = isort (l.map i4) := by
  obtain ⟨l', _, e⟩ := perm_map_ex (isort_perm (l.map i4))
  unfold srR
  rw [e, List.map_map, List.map_map]
  refine List.map_congr_left fun t _ => ?_
  rfl
theorem srR_map (l : List R4) : (isort (l.map i4)).map tI = (srR l).map rD := by
  rw [← srR_i4, List.map_map]
  rfl
theorem srR_perm (l : List R4) : (srR l).Perm l := by
  have h := (isort_perm (l.map i4)).map toR
  rw [List.map_map] at h
  have e : l.map (toR ∘ i4) = l := by
    have : (toR ∘ i4) = id := rfl
    rw [this, List.map_id]
  rw [e] at h
  exact h
theorem srR_congr {l m : List R4} (h : l.Perm m) : srR l = srR m := by
  unfold srR
  rw [isort_p (d := 4) (fun y hy => by obtain ⟨t, _, rfl⟩ := List.mem_map.mp hy; rfl) (h.map i4)]
theorem tups_i4 (l : List R4) : TupsD (l.map i4) ↔ l.length < 64 := by
  unfold TupsD
  rw [List.length_map]
  exact ⟨fun h => h.1, fun h => ⟨h, 4, by decide, fun y hy => by obtain ⟨t, _, rfl⟩ := List.mem_map.mp hy; rfl⟩⟩
/-- a round that exchanges two -/
structure Ex (n : Nat) (R S : R4) (s σ : Int) (t : R4) : Prop where
  rd : Rd n t
  c : ∃ g, g ≠ 0 ∧ mixR2 s R (σ * bnd R) S = mulR g t
theorem Ex.uniq {m n : Nat} {R S : R4} {s σ : Int} {t t' : R4} (h : Ex m R S s σ t) (h' : Ex n R S s σ t') : t = t' := by
  obtain ⟨g, g0, e⟩ := h.c
  obtain ⟨g', g0', e'⟩ := h'.c
  exact rd_mulR h.rd h'.rd g0 g0' (e.symm.trans e')
theorem ex_bnd {R S : R4} {s σ : Int} (hs : s * s = bnd R * bnd S) (h1 : σ * σ = 1) : bnd (mixR2 s R (σ * bnd R) S) = 2 * bnd R * s * (s + σ * jn R S) := by
  rw [bnd_mix]
  have e : σ * bnd R * (σ * bnd R) = bnd R * bnd R := by
    rw [show σ * bnd R * (σ * bnd R) = σ * σ * (bnd R * bnd R) by grind, h1, Int.one_mul]
  rw [e, hs, show bnd R * bnd R * bnd S = bnd R * (bnd R * bnd S) by grind, ← hs]
  grind
theorem Ex.swap {m n : Nat} {R S : R4} {s σ : Int} {t t' : R4} (hR : 0 < bnd R) (s0 : 0 < s) (hs : s * s = bnd R * bnd S) (h1 : σ * σ = 1) (h : Ex m R S s σ t) (h' : Ex n S R s σ t') : t = t' := by
  obtain ⟨g, g0, e⟩ := h.c
  obtain ⟨g', g0', e'⟩ := h'.c
  have σ0 : σ ≠ 0 := fun z => by rw [z] at h1; exact absurd h1 (by decide)
  have key : mulR s (mixR2 s R (σ * bnd R) S) = mulR (σ * bnd R) (mixR2 s S (σ * bnd S) R) := by
    generalize bnd R = r at *
    generalize bnd S = q at *
    have a : ∀ x y : Int, s * (s * x + σ * r * y) = σ * r * (s * y + σ * q * x) := fun x y => by
      rw [show s * (s * x + σ * r * y) = s * s * x + s * σ * r * y by grind, hs, show σ * r * (s * y + σ * q * x) = σ * r * s * y + σ * σ * (r * q * x) by grind, h1]
      grind
    unfold mixR2 mulR addR
    simp only [Prod.mk.injEq]
    exact ⟨a _ _, a _ _, a _ _, a _ _⟩
  rw [e, e', mulR_mulR, mulR_mulR] at key
  exact rd_mulR h.rd h'.rd (Int.mul_ne_zero (by omega) g0) (Int.mul_ne_zero (Int.mul_ne_zero σ0 (by omega)) g0') key
theorem mirR_sc (g : Int) (t y : R4) : mirR (mulR g t) y = mulR (g * g) (mirR t y) := by
  unfold mirR
  rw [bnd_mulR]
  have e := jn_mulR g 1 t y
  rw [show mulR 1 y = y by unfold mulR; simp] at e
  rw [e]
  unfold mulR
  simp only [Prod.mk.injEq]
  refine ⟨?_, ?_, ?_, ?_⟩ <;> grind
theorem jn_mix (a b : Int) (x y z : R4) : jn (mixR2 a x b y) z = a * jn x z + b * jn y z := by
  unfold mixR2 addR mulR jn
  simp only
  grind
theorem Ex.one {n : Nat} {R S : R4} {s σ : Int} {t : R4} (hR : 0 < bnd R) (s0 : 0 < s) (hs : s * s = bnd R * bnd S) (h1 : σ * σ = 1) (p : 0 < s + σ * jn R S) (h : Ex n R S s σ t) : (∃ a b : Int, a ≠ 0 ∧ b ≠ 0 ∧ mulR a (mirR t R) = mulR b S) ∧ (∃ a b : Int, a ≠ 0 ∧ b ≠ 0 ∧ mulR a (mirR t S) = mulR b R) := by
  obtain ⟨g, g0, e⟩ := h.c
  have σ0 : σ ≠ 0 := fun z => by rw [z] at h1; exact absurd h1 (by decide)
  have eb := ex_bnd (R := R) (S := S) hs h1
  have j1 : jn (mixR2 s R (σ * bnd R) S) R = bnd R * (s + σ * jn R S) := by rw [jn_mix, jn_self, jn_comm S R]; grind
  have j2 : jn (mixR2 s R (σ * bnd R) S) S = σ * s * (s + σ * jn R S) := by
    rw [jn_mix, jn_self, show σ * bnd R * bnd S = σ * (bnd R * bnd S) by grind, ← hs, show σ * s * (s + σ * jn R S) = σ * (s * s) + σ * σ * (s * jn R S) by grind, h1]
    grind
  have A : mirR (mixR2 s R (σ * bnd R) S) R = mulR (-(2 * σ * (bnd R * bnd R) * (s + σ * jn R S))) S := by
    unfold mirR
    rw [eb, j1]
    generalize s + σ * jn R S = w
    generalize bnd R = r
    unfold mixR2 addR mulR
    simp only [Prod.mk.injEq]
    refine ⟨?_, ?_, ?_, ?_⟩ <;> grind
  have B : mirR (mixR2 s R (σ * bnd R) S) S = mulR (-(2 * σ * (s * s) * (s + σ * jn R S))) R := by
    unfold mirR
    rw [eb, j2]
    generalize s + σ * jn R S = w
    generalize bnd R = r
    have a : ∀ x y : Int, 2 * r * s * w * y - 2 * (σ * s * w) * (s * x + σ * r * y) = -(2 * σ * (s * s) * w) * x := fun x y => by
      rw [show 2 * r * s * w * y - 2 * (σ * s * w) * (s * x + σ * r * y) = 2 * r * s * w * y - 2 * σ * (s * s) * w * x - σ * σ * (2 * r * s * w * y) by grind, h1]
      grind
    unfold mixR2 addR mulR
    simp only [Prod.mk.injEq]
    exact ⟨a _ _, a _ _, a _ _, a _ _⟩
  rw [e, mirR_sc] at A B
  have w0 : s + σ * jn R S ≠ 0 := by omega
  have gg := Int.mul_ne_zero g0 g0
  have n2 : ∀ c : Int, c ≠ 0 → -(2 * σ * c * (s + σ * jn R S)) ≠ 0 := fun c c0 => Int.neg_ne_zero.mpr (Int.mul_ne_zero (Int.mul_ne_zero (Int.mul_ne_zero (show (2 : Int) ≠ 0 by decide) σ0) c0) w0)
  exact ⟨⟨g * g, _, gg, n2 _ (Int.mul_ne_zero (by omega) (by omega)), A⟩, ⟨g * g, _, gg, n2 _ (Int.mul_ne_zero (by omega) (by omega)), B⟩⟩
/-- the rounds that there are -/
def exlR (s j : Int) (tM tP : R4) : List R4 := (if 0 < s - j then [tM] else []) ++ (if 0 < s + j then [tP] else [])
theorem exlR_congr {s j : Int} {a b c d : R4} (h1 : 0 < s - j → a = c) (h2 : 0 < s + j → b = d) : exlR s j a b = exlR s j c d := by
  unfold exlR
  by_cases p : 0 < s - j
  · rw [if_pos p, if_pos p, h1 p]
    by_cases q : 0 < s + j
    · rw [if_pos q, if_pos q, h2 q]
    · rw [if_neg q, if_neg q]
  · rw [if_neg p, if_neg p]
    by_cases q : 0 < s + j
    · rw [if_pos q, if_pos q, h2 q]
    · rw [if_neg q, if_neg q]
theorem exlR_len (s j : Int) (a b : R4) : (exlR s j a b).length ≤ 2 := by
  unfold exlR
  split <;> split <;> simp
theorem sq_quot {g n c : Int} (g0 : g ≠ 0) (e : g * g * n = c * c) : ∃ s, 0 ≤ s ∧ s * s = n := by
  have e2 : g.natAbs ^ 2 ∣ c.natAbs ^ 2 := by
    refine ⟨n.natAbs, ?_⟩
    have := congrArg Int.natAbs e
    rw [Int.natAbs_mul, Int.natAbs_mul, Int.natAbs_mul] at this
    rw [Nat.pow_two, Nat.pow_two]
    exact this.symm
  have d : g.natAbs ∣ c.natAbs := (Nat.pow_dvd_pow_iff (by decide)).mp e2
  obtain ⟨k, hk⟩ := Int.natAbs_dvd_natAbs.mp d
  refine ⟨k.natAbs, by omega, ?_⟩
  rw [Int.natAbs_mul_self']
  rw [hk] at e
  exact (Int.eq_of_mul_eq_mul_left (Int.mul_ne_zero g0 g0) (by rw [e]; grind)).symm
/-! two rounds apart, a link beside both, and the links beside that link -/
def wR (r : R4) : R4 := (-(2 * r.2.2.2), r.2.1, r.2.2.1, -(2 * r.1))
def acr (x y z : R4) : R4 := cr4 (wR x) (wR y) (wR z)
def wgt (x y : R4) : Int := jn x y * jn x y - bnd x * bnd y
def inn (x y z : R4) : R4 := mixR2 (jn z y * jn x y - jn z x * bnd y) x (jn z x * jn x y - jn z y * bnd x) y
def outR (x y z : R4) : R4 := mixR2 (wgt x y) z (-1) (inn x y z)
def midR (x y z : R4) : R4 := mixR2 (bnd (outR x y z)) (inn x y z) (-2 * bnd (inn x y z) - bnd (outR x y z)) (outR x y z)
def sqn (x y z : R4) : Int := (wgt x y * bnd (outR x y z) * wgt x y * bnd (outR x y z) * bnd z - bnd (midR x y z)) * bnd (acr x y z)
def nbr (x y z : R4) (w : Int) : R4 := mixR2 (bnd (acr x y z)) (midR x y z) w (acr x y z)
theorem acr_x (x y z : R4) : jn (acr x y z) x = 0 := by
  unfold acr jn cr4 dt3 mnr wR
  simp only
  grind
theorem acr_y (x y z : R4) : jn (acr x y z) y = 0 := by
  unfold acr jn cr4 dt3 mnr wR
  simp only
  grind
theorem acr_z (x y z : R4) : jn (acr x y z) z = 0 := by
  unfold acr jn cr4 dt3 mnr wR
  simp only
  grind
def grm (x y z : R4) : Int := bnd x * (bnd y * bnd z - jn y z * jn y z) - jn x y * (jn x y * bnd z - jn y z * jn x z) + jn x z * (jn x y * jn y z - bnd y * jn x z)
theorem acr_bnd (x y z : R4) : bnd (acr x y z) = -4 * grm x y z := by
  obtain ⟨a, b, c, d⟩ := x
  obtain ⟨a', b', c', d'⟩ := y
  obtain ⟨a'', b'', c'', d''⟩ := z
  unfold acr grm jn bnd cr4 dt3 mnr wR
  simp only
  grind
theorem rb_mix (f : Int) (m : G4) (a b : Int) (x y : R4) : RB f m (mixR2 a x b y) = mixR2 a (RB f m x) b (RB f m y) := by
  unfold mixR2
  rw [rb_add, rb_mul, rb_mul]
theorem tr_mix {f : Int} {m : G4} {X Y X0 Y0 : R4} {s s' d d' S D u v a b a0 b0 : Int} (hX : mulR s X = mulR d (RB f m X0)) (hY : mulR s' Y = mulR d' (RB f m Y0)) (e1 : S = u * s) (e2 : S = v * s') (h1 : u * a * d = D * a0) (h2 : v * b * d' = D * b0) :
    mulR S (mixR2 a X b Y) = mulR D (RB f m (mixR2 a0 X0 b0 Y0)) := by
  have A : mulR S (mixR2 a X b Y) = addR (mulR (u * a) (mulR s X)) (mulR (v * b) (mulR s' Y)) := by
    unfold mixR2 addR mulR
    simp only [Prod.mk.injEq]
    refine ⟨?_, ?_, ?_, ?_⟩ <;> rw [Int.mul_add] <;> congr 1 <;> (first | (rw [e1]; grind) | (rw [e2]; grind))
  rw [A, hX, hY, rb_mix, mulR_mulR, mulR_mulR, h1, h2]
  unfold mixR2 addR mulR
  simp only [Prod.mk.injEq]
  refine ⟨?_, ?_, ?_, ?_⟩ <;> grind
theorem tr_bnd {f : Int} {m : G4} {X X0 : R4} {s d : Int} (h : mulR s X = mulR d (RB f m X0)) : s * s * bnd X = d * d * ((dtG m).nm * bnd X0) := by
  rw [← bnd_mulR, h, bnd_mulR, bnd_rb]
theorem tr_jn {f : Int} {m : G4} {X X0 Y Y0 : R4} {s s' d d' : Int} (h : mulR s X = mulR d (RB f m X0)) (h' : mulR s' Y = mulR d' (RB f m Y0)) : s * s' * jn X Y = d * d' * ((dtG m).nm * jn X0 Y0) := by
  rw [← jn_mulR, h, h', jn_mulR, jn_rb]

/-- three rows led by one map, each up to a number of its own -/
structure Tri (f : Int) (m : G4) (x0 y0 z0 x y z : R4) (α β γ : Int) : Prop where
  hf : f = 0 ∨ f = 1
  dt : dtG m ≠ 0
  a0 : α ≠ 0
  b0 : β ≠ 0
  c0 : γ ≠ 0
  ex : RB f m x0 = mulR α x
  ey : RB f m y0 = mulR β y
  ez : RB f m z0 = mulR γ z
section
variable {f : Int} {m : G4} {x0 y0 z0 x y z : R4} {α β γ : Int}
theorem mulR_1 (r : R4) : mulR 1 r = r := by unfold mulR; simp
theorem Tri.tx (h : Tri f m x0 y0 z0 x y z α β γ) : mulR α x = mulR 1 (RB f m x0) := by rw [mulR_1]; exact h.ex.symm
theorem Tri.ty (h : Tri f m x0 y0 z0 x y z α β γ) : mulR β y = mulR 1 (RB f m y0) := by rw [mulR_1]; exact h.ey.symm
theorem Tri.tz (h : Tri f m x0 y0 z0 x y z α β γ) : mulR γ z = mulR 1 (RB f m z0) := by rw [mulR_1]; exact h.ez.symm
theorem Tri.nm (h : Tri f m x0 y0 z0 x y z α β γ) : (dtG m).nm ≠ 0 := by have := Gi.nm_pos h.dt; omega
theorem tri_poly {α β γ bx bY jxy jzx jzy δ Bx By Jxy Jzx Jzy : Int} (e1 : α * α * bx = δ * Bx) (e2 : β * β * bY = δ * By) (e4 : α * β * jxy = δ * Jxy) (e5 : γ * α * jzx = δ * Jzx) (e6 : γ * β * jzy = δ * Jzy) :
    (α * α * (β * β)) * (jxy * jxy - bx * bY) = δ * δ * (Jxy * Jxy - Bx * By) ∧ (α * (β * β) * γ) * (jzy * jxy - jzx * bY) = δ * δ * (Jzy * Jxy - Jzx * By) ∧ (α * α * β * γ) * (jzx * jxy - jzy * bx) = δ * δ * (Jzx * Jxy - Jzy * Bx) := by
  refine ⟨?_, ?_, ?_⟩
  · rw [show (α * α * (β * β)) * (jxy * jxy - bx * bY) = (α * β * jxy) * (α * β * jxy) - (α * α * bx) * (β * β * bY) by grind, e1, e2, e4]
    grind
  · rw [show (α * (β * β) * γ) * (jzy * jxy - jzx * bY) = (γ * β * jzy) * (α * β * jxy) - (γ * α * jzx) * (β * β * bY) by grind, e2, e4, e5, e6]
    grind
  · rw [show (α * α * β * γ) * (jzx * jxy - jzy * bx) = (γ * α * jzx) * (α * β * jxy) - (γ * β * jzy) * (α * α * bx) by grind, e1, e4, e5, e6]
    grind
theorem Tri.poly (h : Tri f m x0 y0 z0 x y z α β γ) : (α * α * (β * β)) * wgt x y = (dtG m).nm * (dtG m).nm * wgt x0 y0 ∧ (α * (β * β) * γ) * (jn z y * jn x y - jn z x * bnd y) = (dtG m).nm * (dtG m).nm * (jn z0 y0 * jn x0 y0 - jn z0 x0 * bnd y0) ∧ (α * α * β * γ) * (jn z x * jn x y - jn z y * bnd x) = (dtG m).nm * (dtG m).nm * (jn z0 x0 * jn x0 y0 - jn z0 y0 * bnd x0) := by
  have e1 := tr_bnd h.tx
  have e2 := tr_bnd h.ty
  have e4 := tr_jn h.tx h.ty
  have e5 := tr_jn h.tz h.tx
  have e6 := tr_jn h.tz h.ty
  rw [Int.mul_one, Int.one_mul] at e1 e2 e4 e5 e6
  exact tri_poly e1 e2 e4 e5 e6
theorem Tri.inn (h : Tri f m x0 y0 z0 x y z α β γ) : mulR (α * α * (β * β) * γ) (inn x y z) = mulR ((dtG m).nm * (dtG m).nm) (RB f m (inn x0 y0 z0)) := by
  obtain ⟨_, p1, p2⟩ := h.poly
  unfold L2.G.inn
  exact tr_mix h.tx h.ty (u := α * (β * β) * γ) (v := α * α * β * γ) (by grind) (by grind) (by rw [Int.mul_one]; exact p1) (by rw [Int.mul_one]; exact p2)
theorem Tri.out (h : Tri f m x0 y0 z0 x y z α β γ) : mulR (α * α * (β * β) * γ) (outR x y z) = mulR ((dtG m).nm * (dtG m).nm) (RB f m (outR x0 y0 z0)) := by
  obtain ⟨p0, _, _⟩ := h.poly
  unfold outR
  exact tr_mix h.tz h.inn (u := α * α * (β * β)) (v := 1) rfl (by rw [Int.one_mul]) (by rw [Int.mul_one]; exact p0) (by grind)
theorem Tri.len (h : Tri f m x0 y0 z0 x y z α β γ) : (α * α * (β * β) * γ) * (α * α * (β * β) * γ) * bnd (outR x y z) = (dtG m).nm ^ 5 * bnd (outR x0 y0 z0) := by
  rw [tr_bnd h.out]
  grind
theorem Tri.mid (h : Tri f m x0 y0 z0 x y z α β γ) : mulR ((α * α * (β * β) * γ) ^ 3) (midR x y z) = mulR ((dtG m).nm ^ 7) (RB f m (midR x0 y0 z0)) := by
  have l := h.len
  have i := tr_bnd h.inn
  unfold midR
  have hi := h.inn
  have ho := h.out
  generalize α * α * (β * β) * γ = s at *
  refine tr_mix hi ho (u := s ^ 2) (v := s ^ 2) (by grind) (by grind) ?_ ?_
  · rw [show s ^ 2 = s * s by grind, l]; grind
  · rw [show s ^ 2 * (-2 * bnd (L2.G.inn x y z) - bnd (outR x y z)) = -2 * (s * s * bnd (L2.G.inn x y z)) - s * s * bnd (outR x y z) by grind, l, i]; grind
end

/-! the two rounds of the law ahead of its map, and what the program's sums come to there -/
def P2R (n m : Int) : R4 := (m * m, 0, 0 - 2 * n * m, n * n - m * m)
def lnR (F T i j : Int) : R4 := (F * j * j, 0 - 2 * i * j * F, 0 - T, F * i * i)
def thd (n m i j : Int) : Int := i * i * m * m + j * j * (n * n - m * m)
/-- the sums in terms of m and of p = n + m -/
def QR (m p : Int) : R4 := (m * m, 0, -2 * m * (p - 2 * m), (p - 2 * m) * p)
def dR (m p i j : Int) : Int := (p - 2 * m) * p * (j * j) - m * m * (i * i)
def UR (m p i j : Int) : R4 := (m * m * dR m p i j, -4 * i * j * (m * m) * ((p - 2 * m) * p), 0, -((p - 2 * m) * p * dR m p i j))
def AR (m p i j : Int) : R4 := (m * m * (i * j), dR m p i j, 0, -((p - 2 * m) * p * (i * j)))
def tR (m p i j : Int) : Int := i * i * m * m + j * j * ((p - 2 * m) * p)
def M1R (m p i j : Int) : R4 := mixR2 (tR m p i j * p) (QR m p) (4 * m - p) (UR m p i j)
theorem thd_tR (m p i j : Int) : thd (p - m) m i j = tR m p i j := by unfold thd tR; grind
section
variable (m p i j : Int)
theorem bnd_ax : bnd axR = 1 := by decide
theorem bnd_P2 : bnd (P2R (p - m) m) = 4 * (m * m * (m * m)) := by unfold bnd P2R; simp only; grind
theorem jn_axP2 : jn axR (P2R (p - m) m) = -2 * (p - m) * m := by unfold jn axR P2R; simp only; grind
theorem bnd_ln (F : Int) : bnd (lnR F (tR m p i j) i j) = tR m p i j * tR m p i j := by unfold bnd lnR; simp only; grind
theorem jn_lnax (F : Int) : jn (lnR F (tR m p i j) i j) axR = -(tR m p i j) := by unfold jn axR lnR; simp only; grind
theorem jn_lnP2 : jn (lnR (p * m) (tR m p i j) i j) (P2R (p - m) m) = -2 * (m * m) * tR m p i j := by unfold jn P2R lnR tR; simp only; grind
theorem wgt_0 : wgt axR (P2R (p - m) m) = 4 * (m * m) * ((p - 2 * m) * p) := by
  unfold wgt
  rw [bnd_ax, bnd_P2, jn_axP2]
  grind
theorem inn_0 : inn axR (P2R (p - m) m) (lnR (p * m) (tR m p i j) i j) = mulR (2 * tR m p i j * (p * m)) (QR m p) := by
  unfold inn
  rw [bnd_ax, bnd_P2, jn_axP2, jn_lnP2, jn_lnax]
  generalize tR m p i j = T
  unfold mixR2 mulR addR axR P2R QR
  simp only [Prod.mk.injEq]
  refine ⟨?_, ?_, ?_, ?_⟩ <;> grind
theorem out_0 : outR axR (P2R (p - m) m) (lnR (p * m) (tR m p i j) i j) = mulR (2 * (p * m)) (UR m p i j) := by
  unfold outR
  rw [inn_0, wgt_0]
  unfold mixR2 mulR addR lnR QR UR tR dR
  simp only [Prod.mk.injEq]
  refine ⟨?_, ?_, ?_, ?_⟩ <;> grind
theorem bnd_Q : bnd (QR m p) = -8 * (m * m * m) * (p - 2 * m) := by unfold bnd QR; simp only; grind
theorem bnd_U : bnd (UR m p i j) = 4 * (m * m) * ((p - 2 * m) * p) * (tR m p i j * tR m p i j) := by unfold bnd UR tR dR; simp only; grind
theorem jn_QU : jn (QR m p) (UR m p i j) = 0 := by unfold jn QR UR; simp only; grind
theorem bnd_A : bnd (AR m p i j) = tR m p i j * tR m p i j := by unfold bnd AR tR dR; simp only; grind
theorem mid_0 : midR axR (P2R (p - m) m) (lnR (p * m) (tR m p i j) i j) = mulR (32 * (p * m) ^ 3 * (m * m) * (tR m p i j) ^ 2 * (p - 2 * m)) (M1R m p i j) := by
  unfold midR M1R
  rw [inn_0, out_0, bnd_mulR, bnd_mulR, bnd_U, bnd_Q]
  generalize tR m p i j = T
  generalize QR m p = Q
  generalize UR m p i j = U
  unfold mixR2 mulR addR
  simp only [Prod.mk.injEq]
  refine ⟨?_, ?_, ?_, ?_⟩ <;> grind
theorem bnd_M1 : bnd (M1R m p i j) = tR m p i j * p * (tR m p i j * p) * (-8 * (m * m * m) * (p - 2 * m)) + (4 * m - p) * (4 * m - p) * (4 * (m * m) * ((p - 2 * m) * p) * (tR m p i j * tR m p i j)) := by
  unfold M1R
  rw [bnd_mix, bnd_Q, bnd_U, jn_QU]
  grind
theorem grm_0 : grm axR (P2R (p - m) m) (lnR (p * m) (tR m p i j) i j) = -4 * (tR m p i j * tR m p i j) * (p * m * (p * m)) := by
  unfold grm
  rw [bnd_ax, bnd_P2, jn_axP2, jn_comm axR (lnR _ _ _ _), jn_comm (P2R _ _) (lnR _ _ _ _), jn_lnP2, jn_lnax, bnd_ln]
  grind
/-- the sum whose root is taken, ahead of the map and without the row across -/
theorem sq_0 : wgt axR (P2R (p - m) m) * bnd (outR axR (P2R (p - m) m) (lnR (p * m) (tR m p i j) i j)) * (wgt axR (P2R (p - m) m) * bnd (outR axR (P2R (p - m) m) (lnR (p * m) (tR m p i j) i j))) * bnd (lnR (p * m) (tR m p i j) i j) - bnd (midR axR (P2R (p - m) m) (lnR (p * m) (tR m p i j) i j)) = (128 * (tR m p i j) ^ 3 * m ^ 6 * p ^ 3 * (p - 2 * m) ^ 2) * (128 * (tR m p i j) ^ 3 * m ^ 6 * p ^ 3 * (p - 2 * m) ^ 2) * (2 * m * p) := by
  rw [wgt_0, out_0, mid_0, bnd_mulR, bnd_mulR, bnd_U, bnd_M1, bnd_ln]
  generalize tR m p i j = T
  grind
end

theorem orth_1 {q d M a l N : Int} (e : q * d = M * a * l) : (d * d + 4 * (a * a) * M * N) * q = (l * d + 4 * N * a * q) * (M * a) := by
  rw [show (d * d + 4 * (a * a) * M * N) * q = d * (q * d) + 4 * (a * a) * M * N * q by grind, e]
  grind
theorem orth_2 {q d M a l N : Int} (e : q * d = M * a * l) : (d * d + 4 * (a * a) * M * N) * l = (l * d + 4 * N * a * q) * d := by
  rw [show (l * d + 4 * N * a * q) * d = l * d * d + 4 * N * a * (q * d) by grind, e]
  grind
theorem orth_3 {q d M a l N k : Int} (e : q * d = M * a * l) (h : M * k = -(N * q)) : M * ((d * d + 4 * (a * a) * M * N) * k) = M * ((l * d + 4 * N * a * q) * -(N * a)) := by
  rw [show M * ((d * d + 4 * (a * a) * M * N) * k) = (d * d + 4 * (a * a) * M * N) * (M * k) by grind, h, show M * ((l * d + 4 * N * a * q) * -(N * a)) = -N * ((l * d + 4 * N * a * q) * (M * a)) by grind, ← orth_1 e]
  grind
theorem orth_A {m p i j : Int} (m0 : m ≠ 0) (p0 : p ≠ 0) {u : R4} (h1 : jn u axR = 0) (h2 : jn u (P2R (p - m) m) = 0) (h3 : jn u (lnR (p * m) (tR m p i j) i j) = 0) : mulR (tR m p i j * tR m p i j) u = mulR (jn u (AR m p i j)) (AR m p i j) := by
  obtain ⟨q, l, n, k⟩ := u
  have e1 : n = 0 := by
    unfold jn axR at h1
    simp only at h1
    omega
  subst e1
  have e2 : m * m * k = -((p - 2 * m) * p * q) := by
    unfold jn P2R at h2
    simp only at h2
    grind
  have e3 : i * j * l = -(q * (i * i) + j * j * k) := by
    have pm : p * m ≠ 0 := Int.mul_ne_zero p0 m0
    have : p * m * (i * j * l + q * (i * i) + j * j * k) = 0 := by
      unfold jn lnR at h3
      simp only at h3
      grind
    have := (Int.mul_eq_zero.mp this).resolve_left pm
    omega
  have e4 : q * dR m p i j = m * m * (i * j) * l := by
    unfold dR
    have : m * m * (i * j * l) = -(m * m * q * (i * i) + j * j * (m * m * k)) := by rw [e3]; grind
    rw [e2] at this
    grind
  have eT : tR m p i j * tR m p i j = dR m p i j * dR m p i j + 4 * ((i * j) * (i * j)) * (m * m) * ((p - 2 * m) * p) := by unfold tR dR; grind
  have mm : m * m ≠ 0 := Int.mul_ne_zero m0 m0
  have eJ : jn (q, l, 0, k) (AR m p i j) = l * dR m p i j + 4 * ((p - 2 * m) * p) * (i * j) * q := by
    unfold jn AR
    simp only
    rw [show m * m * (i * j) * k = i * j * (m * m * k) by grind, e2]
    grind
  rw [eJ, eT]
  have c1 : (dR m p i j * dR m p i j + 4 * ((i * j) * (i * j)) * (m * m) * ((p - 2 * m) * p)) * q = (l * dR m p i j + 4 * ((p - 2 * m) * p) * (i * j) * q) * (m * m * (i * j)) := by
    exact orth_1 e4
  unfold mulR AR
  simp only [Prod.mk.injEq]
  refine ⟨c1, ?_, by simp, ?_⟩
  · exact orth_2 e4
  · refine Int.eq_of_mul_eq_mul_left mm ?_
    exact orth_3 e4 e2
theorem sq_pm {a b : Int} (h : a * a = b * b) : ∃ ε : Int, (ε = 1 ∨ ε = -1) ∧ a = ε * b := by
  have h2 : (a - b) * (a + b) = 0 := by grind
  rcases Int.mul_eq_zero.mp h2 with y | y
  · exact ⟨1, .inl rfl, by omega⟩
  · exact ⟨-1, .inr rfl, by omega⟩
section
variable {f : Int} {g : G4} {x y z : R4} {α β γ m p i j : Int}
theorem acr_tr (h : Tri f g axR (P2R (p - m) m) (lnR (p * m) (tR m p i j) i j) x y z α β γ) (m0 : m ≠ 0) (p0 : p ≠ 0) (t0 : tR m p i j ≠ 0) :
    ∃ ε : Int, (ε = 1 ∨ ε = -1) ∧ mulR (α * β * γ) (acr x y z) = mulR (ε * (4 * (dtG g).nm * (p * m))) (RB f g (AR m p i j)) := by
  have db := dt_bk (f := f) h.dt
  have nb : (dtG (Bk f g)).nm ≠ 0 := by have := Gi.nm_pos db; omega
  have δ0 := h.nm
  have perp : ∀ (w w0 : R4) (c : Int), RB f g w0 = mulR c w → jn (acr x y z) w = 0 → jn (RB f (Bk f g) (acr x y z)) w0 = 0 := fun w w0 c e o => by
    have k1 := jn_rb f (Bk f g) (acr x y z) (RB f g w0)
    rw [rb_back' h.hf] at k1
    have k2 := jn_mulR 1 c (acr x y z) w
    rw [mulR_1, o, Int.mul_zero] at k2
    rw [e, k2, Int.mul_zero] at k1
    have k3 := jn_mulR 1 (dtG g).nm (RB f (Bk f g) (acr x y z)) w0
    rw [mulR_1, Int.one_mul, k1] at k3
    exact (Int.mul_eq_zero.mp k3.symm).resolve_left δ0
  have u := orth_A m0 p0 (perp _ _ _ h.ex (acr_x x y z)) (perp _ _ _ h.ey (acr_y x y z)) (perp _ _ _ h.ez (acr_z x y z))
  have v := congrArg (RB f g) u
  rw [rb_mul, rb_mul, rb_back h.hf, mulR_mulR] at v
  generalize jn (RB f (Bk f g) (acr x y z)) (AR m p i j) = c at v
  have w := tr_bnd v
  rw [bnd_A, acr_bnd] at w
  have gr : (α * β * γ) * (α * β * γ) * grm x y z = (dtG g).nm ^ 3 * grm axR (P2R (p - m) m) (lnR (p * m) (tR m p i j) i j) := by
    have e1 := tr_bnd h.tx
    have e2 := tr_bnd h.ty
    have e3 := tr_bnd h.tz
    have e4 := tr_jn h.tx h.ty
    have e5 := tr_jn h.tx h.tz
    have e6 := tr_jn h.ty h.tz
    rw [Int.mul_one, Int.one_mul] at e1 e2 e3 e4 e5 e6
    unfold grm
    generalize P2R (p - m) m = Y0 at *
    generalize lnR (p * m) (tR m p i j) i j = Z0 at *
    generalize axR = X0 at *
    generalize (dtG g).nm = δ at *
    generalize bnd x = bx at *
    generalize bnd y = bY at *
    generalize bnd z = bz at *
    generalize jn x y = jxy at *
    generalize jn x z = jxz at *
    generalize jn y z = jyz at *
    rw [show α * β * γ * (α * β * γ) * (bx * (bY * bz - jyz * jyz) - jxy * (jxy * bz - jyz * jxz) + jxz * (jxy * jyz - bY * jxz)) = (α * α * bx) * ((β * β * bY) * (γ * γ * bz) - (β * γ * jyz) * (β * γ * jyz)) - (α * β * jxy) * ((α * β * jxy) * (γ * γ * bz) - (β * γ * jyz) * (α * γ * jxz)) + (α * γ * jxz) * ((α * β * jxy) * (β * γ * jyz) - (β * β * bY) * (α * γ * jxz)) by grind, e1, e2, e3, e4, e5, e6]
    grind
  rw [grm_0] at gr
  generalize grm x y z = G at gr w
  generalize tR m p i j = T at *
  generalize (dtG g).nm = δ at *
  have tt : (α * β * γ * c) * (α * β * γ * c) = (4 * (T * T) * (δ * δ) * (p * m)) * (4 * (T * T) * (δ * δ) * (p * m)) := by
    have q : δ * (T * T) * ((α * β * γ * c) * (α * β * γ * c)) = δ * (T * T) * ((4 * (T * T) * (δ * δ) * (p * m)) * (4 * (T * T) * (δ * δ) * (p * m))) := by
      rw [show δ * (T * T) * ((α * β * γ * c) * (α * β * γ * c)) = (α * β * γ) * (α * β * γ) * (c * c * (δ * (T * T))) by grind, ← w, show (α * β * γ) * (α * β * γ) * (T * T * δ * (T * T * δ) * (-4 * G)) = -4 * (T * T * δ * (T * T * δ)) * ((α * β * γ) * (α * β * γ) * G) by grind, gr]
      grind
    exact Int.eq_of_mul_eq_mul_left (Int.mul_ne_zero δ0 (Int.mul_ne_zero t0 t0)) q
  obtain ⟨ε, hε, e⟩ := sq_pm tt
  refine ⟨ε, hε, ?_⟩
  have can : ∀ {a b : R4} {c : Int}, c ≠ 0 → mulR c a = mulR c b → a = b := fun {a b c} c0 e => by
    unfold mulR at e
    simp only [Prod.mk.injEq] at e
    exact Prod.ext (Int.eq_of_mul_eq_mul_left c0 e.1) (Prod.ext (Int.eq_of_mul_eq_mul_left c0 e.2.1) (Prod.ext (Int.eq_of_mul_eq_mul_left c0 e.2.2.1) (Int.eq_of_mul_eq_mul_left c0 e.2.2.2)))
  refine can (c := T * T * δ) (Int.mul_ne_zero (Int.mul_ne_zero t0 t0) δ0) ?_
  rw [mulR_comm, v, mulR_mulR, mulR_mulR, e]
  congr 1
  grind
end

def VR (m p i j R σ : Int) : R4 := mixR2 1 (M1R m p i j) (σ * (4 * m * (p - 2 * m) * R)) (AR m p i j)
/-- the link beside a link, as the law steps to it -/
def nI (a b i j σ : Int) : Int := a * (i * (4 * b * b * b) + σ * j * (a * (a * a - 4 * b * b)))
def nJ (a b i j σ : Int) : Int := 4 * b * b * b * (a * j - σ * b * i)
theorem VR_hom (m p i j R σ c : Int) : VR (c * m) (c * p) i j (c * R) σ = mulR (c ^ 5) (VR m p i j R σ) := by
  unfold VR M1R AR UR QR tR dR mixR2 addR mulR
  simp only [Prod.mk.injEq]
  refine ⟨?_, ?_, ?_, ?_⟩ <;> grind
theorem ln_hom (m p i j c : Int) : lnR (c * p * (c * m)) (tR (c * m) (c * p) i j) i j = mulR (c * c) (lnR (p * m) (tR m p i j) i j) := by
  unfold lnR tR mulR
  simp only [Prod.mk.injEq]
  refine ⟨?_, ?_, ?_, ?_⟩ <;> grind
theorem ln_hom2 (m p i j g : Int) : lnR (p * m) (tR m p (g * i) (g * j)) (g * i) (g * j) = mulR (g * g) (lnR (p * m) (tR m p i j) i j) := by
  unfold lnR tR mulR
  simp only [Prod.mk.injEq]
  refine ⟨?_, ?_, ?_, ?_⟩ <;> grind
theorem VR_ab (a b i j σ : Int) (h1 : σ * σ = 1) : mulR (a * a * (b * b)) (VR (2 * b * b) (a * a) i j (2 * a * b) (-σ)) = mulR (a * a - 4 * b * b) (lnR (a * a * (2 * b * b)) (tR (2 * b * b) (a * a) (nI a b i j σ) (nJ a b i j σ)) (nI a b i j σ) (nJ a b i j σ)) := by
  have hs : σ = 1 ∨ σ = -1 := by
    have : (σ - 1) * (σ + 1) = 0 := by grind
    rcases Int.mul_eq_zero.mp this with y | y <;> omega
  rcases hs with rfl | rfl
  · unfold VR M1R AR UR QR tR dR nI nJ lnR mixR2 addR mulR
    simp only [Prod.mk.injEq]
    refine ⟨?_, ?_, ?_, ?_⟩ <;> grind
  · unfold VR M1R AR UR QR tR dR nI nJ lnR mixR2 addR mulR
    simp only [Prod.mk.injEq]
    refine ⟨?_, ?_, ?_, ?_⟩ <;> grind

theorem sqn_poly {A γ w l bz bm w0 l0 z0 m0 δ B C t : Int} (ew : A * w = δ * δ * w0) (el : (A * γ) * (A * γ) * l = δ ^ 5 * l0) (ez : γ * γ * bz = δ * z0) (em : (A * γ) ^ 3 * (A * γ) ^ 3 * bm = δ ^ 7 * δ ^ 7 * (δ * m0)) (eb : t * t * B = C) :
    ((A * γ) ^ 3 * t) * ((A * γ) ^ 3 * t) * ((w * l * w * l * bz - bm) * B) = δ ^ 15 * (w0 * l0 * (w0 * l0) * z0 - m0) * C := by
  have e1 : (A * γ) ^ 3 * (A * γ) ^ 3 * (w * l * w * l * bz - bm) = δ ^ 15 * (w0 * l0 * (w0 * l0) * z0 - m0) := by
    rw [show (A * γ) ^ 3 * (A * γ) ^ 3 * (w * l * w * l * bz - bm) = (A * w) * ((A * γ) * (A * γ) * l) * ((A * w) * ((A * γ) * (A * γ) * l)) * (γ * γ * bz) - (A * γ) ^ 3 * (A * γ) ^ 3 * bm by grind, ew, el, ez, em]
    grind
  rw [← e1, ← eb]
  grind
def YR (m p T : Int) : Int := 128 * T ^ 3 * m ^ 6 * p ^ 3 * (p - 2 * m) ^ 2
section
variable {f : Int} {g : G4} {x y z : R4} {α β γ m p i j : Int}
theorem acr_b (h : Tri f g axR (P2R (p - m) m) (lnR (p * m) (tR m p i j) i j) x y z α β γ) (m0 : m ≠ 0) (p0 : p ≠ 0) (t0 : tR m p i j ≠ 0) : (α * β * γ) * (α * β * γ) * bnd (acr x y z) = (4 * (p * m)) ^ 2 * (dtG g).nm ^ 3 * (tR m p i j) ^ 2 := by
  obtain ⟨ε, hε, e⟩ := acr_tr h m0 p0 t0
  rw [tr_bnd e, bnd_A]
  rcases hε with rfl | rfl <;> grind
theorem sqn_tr (h : Tri f g axR (P2R (p - m) m) (lnR (p * m) (tR m p i j) i j) x y z α β γ) (m0 : m ≠ 0) (p0 : p ≠ 0) (t0 : tR m p i j ≠ 0) :
    ((α * α * (β * β) * γ) ^ 3 * (α * β * γ)) * ((α * α * (β * β) * γ) ^ 3 * (α * β * γ)) * sqn x y z = (4 * (p * m) * tR m p i j * (dtG g).nm ^ 9 * YR m p (tR m p i j)) * (4 * (p * m) * tR m p i j * (dtG g).nm ^ 9 * YR m p (tR m p i j)) * (2 * m * p) := by
  obtain ⟨ew, _, _⟩ := h.poly
  have el := h.len
  have ez := tr_bnd h.tz
  rw [Int.mul_one, Int.one_mul] at ez
  have em := tr_bnd h.mid
  have eb := acr_b h m0 p0 t0
  have s0 := sq_0 m p i j
  unfold sqn
  rw [sqn_poly ew el ez em eb, s0]
  unfold YR
  generalize tR m p i j = T
  grind
theorem nbr_tr (h : Tri f g axR (P2R (p - m) m) (lnR (p * m) (tR m p i j) i j) x y z α β γ) (m0 : m ≠ 0) (p0 : p ≠ 0) (t0 : tR m p i j ≠ 0) {r R : Int} (hr : r * r = sqn x y z) (hR : R * R = 2 * m * p) :
    ∃ ε : Int, (ε = 1 ∨ ε = -1) ∧ ∀ σ : Int, mulR ((α * α * (β * β) * γ) ^ 3 * ((α * β * γ) * (α * β * γ))) (nbr x y z (σ * ε * r)) = mulR (16 * (p * m) ^ 2 * (tR m p i j) ^ 2 * (dtG g).nm ^ 10 * (32 * (p * m) ^ 3 * (m * m) * (tR m p i j) ^ 2 * (p - 2 * m))) (RB f g (VR m p i j R σ)) := by
  obtain ⟨ε, hε, e⟩ := acr_tr h m0 p0 t0
  have es := sqn_tr h m0 p0 t0
  have eb := acr_b h m0 p0 t0
  have em := h.mid
  rw [mid_0, rb_mul, mulR_mulR] at em
  rw [← hr, ← hR, show (α * α * (β * β) * γ) ^ 3 * (α * β * γ) * ((α * α * (β * β) * γ) ^ 3 * (α * β * γ)) * (r * r) = ((α * α * (β * β) * γ) ^ 3 * (α * β * γ) * r) * ((α * α * (β * β) * γ) ^ 3 * (α * β * γ) * r) by grind] at es
  obtain ⟨ε', hε', es⟩ := sq_pm (es.trans (show _ = (4 * (p * m) * tR m p i j * (dtG g).nm ^ 9 * YR m p (tR m p i j) * R) * (4 * (p * m) * tR m p i j * (dtG g).nm ^ 9 * YR m p (tR m p i j) * R) by grind))
  have hε2 : (ε * ε') * (ε * ε') = 1 := by rcases hε with rfl | rfl <;> rcases hε' with rfl | rfl <;> rfl
  refine ⟨ε * ε', by rcases hε with rfl | rfl <;> rcases hε' with rfl | rfl <;> simp, fun σ => ?_⟩
  unfold nbr VR
  generalize α * α * (β * β) * γ = s at *
  generalize α * β * γ = t at *
  unfold YR at es
  generalize tR m p i j = T at *
  generalize (dtG g).nm = δ at *
  refine tr_mix em e (u := t * t) (v := s ^ 3 * t) (by grind) (by grind) ?_ ?_
  · rw [eb]
    grind
  · have hε3 : ε * ε' * ε * ε' = 1 := by grind
    rw [show s ^ 3 * t * (σ * (ε * ε') * r) * (ε * (4 * δ * (p * m))) = σ * ε * ε' * ε * (4 * δ * (p * m)) * (s ^ 3 * t * r) by grind, es, show ∀ q : Int, σ * ε * ε' * ε * (4 * δ * (p * m)) * (ε' * q) = (ε * ε' * ε * ε') * (σ * (4 * δ * (p * m)) * q) by intro q; grind, hε3]
    grind
end
theorem Gi_nm_ne {m : G4} (d : dtG m ≠ 0) : (dtG m).nm ≠ 0 := by have := Gi.nm_pos d; omega
section
variable {f : Int} {g : G4} {x y z : R4} {α β γ m p i j : Int}
/-- what the program finds beside a link is what the law steps to -/
theorem nbr_due (h : Tri f g axR (P2R (p - m) m) (lnR (p * m) (tR m p i j) i j) x y z α β γ) (m0 : m ≠ 0) (p0 : p ≠ 0) (d0 : p - 2 * m ≠ 0) (t0 : tR m p i j ≠ 0) {r R a b c : Int} (hr : r * r = sqn x y z) (hR : R * R = 2 * m * p) (a0 : a ≠ 0) (b0 : b ≠ 0) (c0 : c ≠ 0) (eR : R = c * a) (em : m = c * b) :
    ∃ ε : Int, (ε = 1 ∨ ε = -1) ∧ ∀ σ : Int, (σ = 1 ∨ σ = -1) → ∃ A B : Int, A ≠ 0 ∧ B ≠ 0 ∧ mulR A (nbr x y z (σ * ε * r)) = mulR B (RB f g (lnR (p * m) (tR m p (nI a b i j σ) (nJ a b i j σ)) (nI a b i j σ) (nJ a b i j σ))) := by
  obtain ⟨ε, hε, e⟩ := nbr_tr h m0 p0 t0 hr hR
  have hp : 2 * b * p = c * (a * a) := by
    have : c * (2 * b * p) = c * (c * (a * a)) := by
      rw [show c * (2 * b * p) = 2 * (c * b) * p by grind, ← em, ← hR, eR]
      grind
    exact Int.eq_of_mul_eq_mul_left c0 this
  refine ⟨-ε, by rcases hε with rfl | rfl <;> simp, fun σ hσ => ?_⟩
  have e := e (-σ)
  rw [show -σ * ε * r = σ * -ε * r by grind] at e
  have key : mulR (4 * (a * a) * (b * b * (b * b))) (VR m p i j R (-σ)) = mulR (c * c * (p - 2 * m)) (lnR (p * m) (tR m p (nI a b i j σ) (nJ a b i j σ)) (nI a b i j σ) (nJ a b i j σ)) := by
    have k1 := VR_ab a b i j σ (by rcases hσ with rfl | rfl <;> rfl)
    have k2 := VR_hom (2 * b * b) (a * a) i j (2 * a * b) (-σ) c
    have k3 := VR_hom m p i j R (-σ) (2 * b)
    have k4 := ln_hom (2 * b * b) (a * a) (nI a b i j σ) (nJ a b i j σ) c
    have k5 := ln_hom m p (nI a b i j σ) (nJ a b i j σ) (2 * b)
    have m2 : 2 * b * m = c * (2 * b * b) := by rw [em]; grind
    have r2 : 2 * b * R = c * (2 * a * b) := by rw [eR]; grind
    rw [hp, m2, r2, k2] at k3
    rw [hp, m2, k4] at k5
    generalize lnR (p * m) (tR m p (nI a b i j σ) (nJ a b i j σ)) (nI a b i j σ) (nJ a b i j σ) = L at *
    generalize lnR (a * a * (2 * b * b)) (tR (2 * b * b) (a * a) (nI a b i j σ) (nJ a b i j σ)) (nI a b i j σ) (nJ a b i j σ) = L0 at *
    generalize VR (2 * b * b) (a * a) i j (2 * a * b) (-σ) = V0 at *
    generalize VR m p i j R (-σ) = V at *
    have ed : c * (a * a - 4 * b * b) = 2 * b * (p - 2 * m) := by
      rw [show c * (a * a - 4 * b * b) = c * (a * a) - 4 * b * (c * b) by grind, ← hp, ← em]
      grind
    unfold mulR at k1 k3 k5 ⊢
    simp only [Prod.mk.injEq] at k1 k3 k5 ⊢
    have one : ∀ v v0 l l0 : Int, a * a * (b * b) * v0 = (a * a - 4 * b * b) * l0 → c ^ 5 * v0 = (2 * b) ^ 5 * v → c * c * l0 = 2 * b * (2 * b) * l → 4 * (a * a) * (b * b * (b * b)) * v = c * c * (p - 2 * m) * l := fun v v0 l l0 q1 q2 q3 => by
      have z8 : (8 * (b * b * b) : Int) ≠ 0 := by
        have := Int.mul_ne_zero (Int.mul_ne_zero b0 b0) b0
        omega
      refine Int.eq_of_mul_eq_mul_left z8 ?_
      rw [show 8 * (b * b * b) * (4 * (a * a) * (b * b * (b * b)) * v) = a * a * (b * b) * ((2 * b) ^ 5 * v) by grind, ← q2, show a * a * (b * b) * (c ^ 5 * v0) = c ^ 5 * (a * a * (b * b) * v0) by grind, q1, show c ^ 5 * ((a * a - 4 * b * b) * l0) = c * c * (c * (a * a - 4 * b * b)) * (c * c * l0) by grind, ed, q3]
      grind
    exact ⟨one _ _ _ _ k1.1 k3.1 k5.1, one _ _ _ _ k1.2.1 k3.2.1 k5.2.1, one _ _ _ _ k1.2.2.1 k3.2.2.1 k5.2.2.1, one _ _ _ _ k1.2.2.2 k3.2.2.2 k5.2.2.2⟩
  have δ0 := h.nm
  have key2 := congrArg (RB f g) key
  rw [rb_mul, rb_mul] at key2
  generalize RB f g (VR m p i j R (-σ)) = V at *
  generalize RB f g (lnR (p * m) (tR m p (nI a b i j σ) (nJ a b i j σ)) (nI a b i j σ) (nJ a b i j σ)) = L at *
  have st0 : (α * α * (β * β) * γ) ^ 3 * (α * β * γ * (α * β * γ)) ≠ 0 := by
    have t := Int.mul_ne_zero (Int.mul_ne_zero h.a0 h.b0) h.c0
    exact Int.mul_ne_zero (Int.pow_ne_zero (Int.mul_ne_zero (Int.mul_ne_zero (Int.mul_ne_zero h.a0 h.a0) (Int.mul_ne_zero h.b0 h.b0)) h.c0)) (Int.mul_ne_zero t t)
  have D0 : 16 * (p * m) ^ 2 * tR m p i j ^ 2 * (dtG g).nm ^ 10 * (32 * (p * m) ^ 3 * (m * m) * tR m p i j ^ 2 * (p - 2 * m)) ≠ 0 := by
    have pm := Int.mul_ne_zero p0 m0
    exact Int.mul_ne_zero (Int.mul_ne_zero (Int.mul_ne_zero (Int.mul_ne_zero (by decide) (Int.pow_ne_zero pm)) (Int.pow_ne_zero t0)) (Int.pow_ne_zero δ0)) (Int.mul_ne_zero (Int.mul_ne_zero (Int.mul_ne_zero (Int.mul_ne_zero (by decide) (Int.pow_ne_zero pm)) (Int.mul_ne_zero m0 m0)) (Int.pow_ne_zero t0)) d0)
  generalize (α * α * (β * β) * γ) ^ 3 * (α * β * γ * (α * β * γ)) = S at *
  generalize 16 * (p * m) ^ 2 * tR m p i j ^ 2 * (dtG g).nm ^ 10 * (32 * (p * m) ^ 3 * (m * m) * tR m p i j ^ 2 * (p - 2 * m)) = D at *
  have bb := Int.mul_ne_zero b0 b0
  refine ⟨4 * (a * a) * (b * b * (b * b)) * S, D * (c * c * (p - 2 * m)), Int.mul_ne_zero (Int.mul_ne_zero (Int.mul_ne_zero (by decide) (Int.mul_ne_zero a0 a0)) (Int.mul_ne_zero bb bb)) st0, Int.mul_ne_zero D0 (Int.mul_ne_zero (Int.mul_ne_zero c0 c0) d0), ?_⟩
  rw [← mulR_mulR, e, mulR_mulR, Int.mul_comm _ D, ← mulR_mulR, key2, mulR_mulR]
end

def ExL (N : Nat) (R S : R4) (l : List R4) : Prop := (∃ s, 0 < s ∧ s * s = bnd R * bnd S ∧ ∃ tM tP, (0 < s - jn R S → Ex N R S s (-1) tM) ∧ (0 < s + jn R S → Ex N R S s 1 tP) ∧ l = srR (exlR s (jn R S) tM tP)) ∨ ((∀ s, s * s ≠ bnd R * bnd S) ∧ l = [])
theorem pos_root {a b n : Int} (h1 : 0 < a) (h2 : 0 < b) (e1 : a * a = n) (e2 : b * b = n) : a = b := by
  have h : (a - b) * (a + b) = 0 := by grind
  rcases Int.mul_eq_zero.mp h with y | y <;> omega
theorem ExL.uniq {M N : Nat} {R S : R4} {l m : List R4} (h : ExL M R S l) (h' : ExL N R S m) : l = m := by
  rcases h with ⟨s, s0, e, a, b, h1, h2, rfl⟩ | ⟨ne, rfl⟩
  · rcases h' with ⟨s', s0', e', c, d, h1', h2', rfl⟩ | ⟨ne, _⟩
    · obtain rfl := pos_root s0 s0' e e'
      rw [exlR_congr (fun p => (h1 p).uniq (h1' p)) fun p => (h2 p).uniq (h2' p)]
    · exact absurd e (ne s)
  · rcases h' with ⟨s', s0', e', _⟩ | ⟨_, rfl⟩
    · exact absurd e' (ne s')
    · rfl
theorem ExL.swap {M N : Nat} {R S : R4} {l m : List R4} (hR : 0 < bnd R) (h : ExL M S R l) (h' : ExL N R S m) : l = m := by
  have c : bnd S * bnd R = bnd R * bnd S := Int.mul_comm _ _
  rcases h with ⟨s, s0, e, a, b, h1, h2, rfl⟩ | ⟨ne, rfl⟩
  · rcases h' with ⟨s', s0', e', c', d, h1', h2', rfl⟩ | ⟨ne, _⟩
    · obtain rfl := pos_root s0 s0' (e.trans c) e'
      rw [jn_comm S R] at h1 h2 ⊢
      rw [exlR_congr (fun p => ((h1' p).swap hR s0 e' rfl (h1 p)).symm) fun p => ((h2' p).swap hR s0 e' rfl (h2 p)).symm]
    · exact absurd (e.trans c) (ne s)
  · rcases h' with ⟨s', s0', e', _⟩ | ⟨_, rfl⟩
    · exact absurd (e'.trans c.symm) (ne s')
    · rfl
theorem ExL.mem {N : Nat} {R S : R4} {l : List R4} (hR : 0 < bnd R) (h : ExL N R S l) : ∀ t ∈ l, Rd N t ∧ (∃ a b : Int, a ≠ 0 ∧ b ≠ 0 ∧ mulR a (mirR t R) = mulR b S) ∧ (∃ a b : Int, a ≠ 0 ∧ b ≠ 0 ∧ mulR a (mirR t S) = mulR b R) := by
  rcases h with ⟨s, s0, e, a, b, h1, h2, rfl⟩ | ⟨ne, rfl⟩
  · intro t ht
    have ht := (srR_perm _).mem_iff.mp ht
    unfold exlR at ht
    rcases List.mem_append.mp ht with ht | ht
    · by_cases p : 0 < s - jn R S
      · rw [if_pos p] at ht
        obtain rfl := List.mem_singleton.mp ht
        exact ⟨(h1 p).rd, (h1 p).one hR s0 e rfl (by omega)⟩
      · rw [if_neg p] at ht
        exact nomatch ht
    · by_cases p : 0 < s + jn R S
      · rw [if_pos p] at ht
        obtain rfl := List.mem_singleton.mp ht
        exact ⟨(h2 p).rd, (h2 p).one hR s0 e rfl (by omega)⟩
      · rw [if_neg p] at ht
        exact nomatch ht
  · intro t ht
    exact nomatch ht
theorem ExL.len {N : Nat} {R S : R4} {l : List R4} (h : ExL N R S l) : l.length ≤ 2 := by
  rcases h with ⟨s, s0, e, a, b, h1, h2, rfl⟩ | ⟨ne, rfl⟩
  · rw [(srR_perm _).length_eq]
    exact exlR_len _ _ _ _
  · exact Nat.zero_le _
theorem isq_root {n : Int} (n0 : 0 < n) (P : Prop) (h1 : ∀ s, 0 < s → s * s = n → isq n = s → P) (h2 : (∀ s, s * s ≠ n) → isq n * isq n ≠ n → P) : P := by
  by_cases c : isq n * isq n = n
  · refine h1 _ ?_ c rfl
    rcases Int.lt_or_eq_of_le (isq_nonneg n) with o | o
    · exact o
    · rw [← o] at c
      omega
  · refine h2 (fun s es => c ?_) c
    have : isq n = s.natAbs := by
      rw [← es, show s * s = (s.natAbs : Int) * (s.natAbs : Int) by exact (Int.natAbs_mul_self' s).symm]
      exact isq_sq (by omega)
    rw [this, ← es]
    exact Int.natAbs_mul_self' s
theorem w_check_pair {T : Tk} {n : Nat} {x y : R4} {k : KD} (hx : Rd n x) (hy : Rd n y) (hn : n ≤ 8000) (h : k .non T) : sm_check_pair [.val (rD x), .val (rD y)] T k := by
  rw [e_check_pair, b_check_pair]
  walk_at "wk"
  refine w_check_round hx hn ?_
  walk_at "wk"
  refine w_check_round hy hn ?_
  walk_at "wk"
  exact h
theorem w_check_unlike {T : Tk} {x y : R4} {k : KD} (ne : x ≠ y) (h : k .non T) : sm_check_unlike [.val (rD x), .val (rD y)] T k := by
  rw [e_check_unlike, b_check_unlike]
  walk_at "wk"
  rw [r4_dc]
  refine iteB_n (decide_eq_false ne) ?_
  walk_at "wk"
  exact h
theorem w_jointR {T : Tk} {n : Nat} {x y : R4} {k : KD} (hx : S4 n x) (hy : S4 n y) (hn : n ≤ 8000) (h : k (.int (jn x y)) T) : sm_joint [.val (rD x), .val (rD y)] T k := by
  rw [e_joint, b_joint]
  walk_at "wk"
  exact ⟨hx.s2.mulOk hy.s2 (by omega) (by omega), hx.s3.mulOk hy.s3 (by omega) (by omega), hx.s1.mulOk hy.s4 (by omega) (by omega), hy.s1.mulOk hx.s4 (by omega) (by omega), lit_mul (by decide), h⟩
theorem w_bendR {T : Tk} {n : Nat} {r : R4} {k : KD} (s : S4 n r) (hn : n ≤ 8000) (h : k (.int (bnd r)) T) : sm_bend [.val (rD r)] T k := w_bend s.s1 s.s2 s.s3 s.s4 hn h
theorem isq_szH {m : Nat} {n : Int} (h : 0 ≤ n) (q : Sz (2 * m) n) : Sz m (isq n) := by
  have s := (isq_spec h).1
  have g := isq_nonneg n
  unfold Sz at *
  rcases Nat.lt_or_ge (isq n).natAbs (2 ^ m) with c | c
  · exact c
  · exfalso
    have e := Nat.mul_le_mul c c
    rw [← Nat.pow_add, show m + m = 2 * m by omega, ← Int.natAbs_mul] at e
    have p := Int.mul_nonneg g g
    omega
theorem s4_mix2 {a b c d l : Nat} {u v : Int} {x y : R4} (hu : Sz a u) (hx : S4 b x) (hv : Sz c v) (hy : S4 d y) (h1 : a + b < l) (h2 : c + d < l) : S4 l (mixR2 u x v y) :=
  ⟨((hu.mul hx.s1).add (hv.mul hy.s1)).mono (by omega), ((hu.mul hx.s2).add (hv.mul hy.s2)).mono (by omega), ((hu.mul hx.s3).add (hv.mul hy.s3)).mono (by omega), ((hu.mul hx.s4).add (hv.mul hy.s4)).mono (by omega)⟩
def lkB (x y z : R4) : Bool := decide (jn z x * jn z x = bnd z * bnd x) && (decide (jn z y * jn z y = bnd z * bnd y) && decide (jn z x * jn z y * jn x y < 0))
theorem wR_s4 {n : Nat} {r : R4} (h : S4 n r) : S4 (n + 2) (wR r) := by
  exact ⟨(sz_2.mul h.s4).neg.mono (by omega), h.s2.mono (by omega), h.s3.mono (by omega), (sz_2.mul h.s1).neg.mono (by omega)⟩
theorem w_depthR {T : Tk} {n : Nat} {x y : R4} {k : KD} (hx : S4 n x) (hy : S4 n y) (hn : n ≤ 8000) (h : k (.int (bnd x * bnd y - jn x y * jn x y)) T) : sm_depth [.val (rD x), .val (rD y)] T k := by
  have sj := jn_sz hx hy
  have bx : Sz (2 * n + 4) (bnd x) := bnd_sz hx.s1 hx.s2 hx.s3 hx.s4
  have by' : Sz (2 * n + 4) (bnd y) := bnd_sz hy.s1 hy.s2 hy.s3 hy.s4
  rw [e_depth, b_depth]
  walk_at "wk"
  refine w_bendR hx (by omega) ?_
  walk_at "wk"
  refine w_bendR hy (by omega) ?_
  walk_at "wk"
  refine ⟨bx.mulOk by' (by omega) (by omega), ?_⟩
  refine w_jointR hx hy (by omega) ?_
  walk_at "wk"
  refine w_jointR hx hy (by omega) ?_
  walk_at "wk"
  exact ⟨sj.mulOk sj (by omega) (by omega), h⟩
theorem w_weights_forR {T : Tk} {r : R4} {k : KD} {n : Nat} (hr : S4 n r) (hn : n ≤ 8000) (h : k (rD (wR r)) T) : sm_weights_for [.val (rD r)] T k := by
  rw [e_weights_for, b_weights_for]
  walk_at "wk"
  exact ⟨(show Sz 2 (-2 : Int) from sz_2.neg).mulOk hr.s4 (by omega) (by omega), (show Sz 2 (-2 : Int) from sz_2.neg).mulOk hr.s1 (by omega) (by omega), h⟩
theorem w_is_link_of {T : Tk} {n : Nat} {x y z : R4} {k : KD} (hx : S4 n x) (hy : S4 n y) (hz : S4 n z) (hn : n ≤ 8000) (h : k (.bl (lkB x y z)) T) : sm_is_link_of [.val (rD x), .val (rD y), .val (rD z)] T k := by
  have s1 := jn_sz hz hx
  have s2 := jn_sz hz hy
  have s3 := jn_sz hx hy
  rw [e_is_link_of, b_is_link_of]
  walk_at "wk"
  refine w_depthR hz hx hn ?_
  unfold lkB at h
  walk_at "wk"
  rw [orK_i]
  by_cases c1 : jn z x * jn z x = bnd z * bnd x
  · rw [decide_eq_true c1, Bool.true_and] at h
    refine iteB_n (by rw [decide_eq_true (show bnd z * bnd x - jn z x * jn z x = 0 by omega)]; rfl) ?_
    walk_at "wk"
    refine w_depthR hz hy hn ?_
    walk_at "wk"
    by_cases c2 : jn z y * jn z y = bnd z * bnd y
    · rw [decide_eq_true c2, Bool.true_and] at h
      refine iteB_p (decide_eq_true (by omega)) ?_
      walk_at "wk"
      refine w_jointR hz hx hn ?_
      walk_at "wk"
      refine w_jointR hz hy hn ?_
      walk_at "wk"
      refine ⟨s1.mulOk s2 (by omega) (by omega), ?_⟩
      refine w_jointR hx hy hn ?_
      walk_at "wk"
      exact ⟨(s1.mul s2).mulOk s3 (by omega) (by omega), h⟩
    · rw [decide_eq_false c2, Bool.false_and] at h
      refine iteB_n (decide_eq_false (by omega)) ?_
      walk_at "wk"
      exact h
  · rw [decide_eq_false c1, Bool.false_and] at h
    refine iteB_p (by rw [decide_eq_false (show ¬ bnd z * bnd x - jn z x * jn z x = 0 by omega)]; rfl) ?_
    walk_at "wk"
    exact h
theorem w_check_apartR {T : Tk} {n : Nat} {x y : R4} {k : KD} (hx : S4 n x) (hy : S4 n y) (hn : n ≤ 8000) (ne : x ≠ y) (ap : 0 < wgt x y) (h : k .non T) : sm_check_apart [.val (rD x), .val (rD y)] T k := by
  rw [e_check_apart, b_check_apart]
  walk_at "wk"
  refine w_check_unlike ne ?_
  walk_at "wk"
  refine w_depthR hx hy hn ?_
  walk_at "wk"
  unfold wgt at ap
  refine iteB_n (decide_eq_false (by omega)) ?_
  walk_at "wk"
  exact h
theorem w_check_linkR {T : Tk} {n : Nat} {x y z : R4} {k : KD} (hx : S4 n x) (hy : S4 n y) (hz : S4 n z) (hn : n ≤ 8000) (lk : lkB x y z = true) (h : k .non T) : sm_check_link [.val (rD x), .val (rD y), .val (rD z)] T k := by
  rw [e_check_link, b_check_link]
  walk_at "wk"
  refine w_is_link_of hx hy hz hn ?_
  rw [lk]
  walk_at "wk"
  exact h
theorem w_are_neighbours {T : Tk} {n : Nat} {x y z w : R4} {k : KD} (hx : Rd n x) (hy : Rd n y) (hz : Rd n z) (hw : Rd n w) (hn : n ≤ 8000) (ne : x ≠ y) (ap : 0 < wgt x y) (lz : lkB x y z = true) (lw : lkB x y w = true) (h : k (.bl (!decide (z = w) && decide (jn z w * jn z w = bnd z * bnd w))) T) : sm_are_neighbours [.val (rD x), .val (rD y), .val (rD z), .val (rD w)] T k := by
  rw [e_are_neighbours, b_are_neighbours]
  walk_at "wk"
  refine w_check_pair hx hy hn ?_
  walk_at "wk"
  refine w_check_pair hz hw hn ?_
  walk_at "wk"
  refine w_check_apartR hx.mr.s hy.mr.s hn ne ap ?_
  walk_at "wk"
  refine w_check_linkR hx.mr.s hy.mr.s hz.mr.s hn lz ?_
  walk_at "wk"
  refine w_check_linkR hx.mr.s hy.mr.s hw.mr.s hn lw ?_
  walk_at "wk"
  rw [r4_dc, andVK_i]
  by_cases e : z = w
  · rw [decide_eq_true e] at h ⊢
    refine iteB_n rfl ?_
    exact h
  · rw [decide_eq_false e] at h ⊢
    refine iteB_p rfl ?_
    walk_at "wk"
    refine w_depthR hz.mr.s hw.mr.s hn ?_
    walk_at "wk"
    rw [Bool.not_false, Bool.true_and] at h
    rw [show decide (bnd z * bnd w - jn z w * jn z w = 0) = decide (jn z w * jn z w = bnd z * bnd w) from decide_eq_decide.mpr (by omega)]
    exact h
theorem cut_facts {ns : List Int} {x : Int} (hx : x ∈ ns) (x0 : x ≠ 0) : 0 < gcdL 0 ns ∧ ns = (lowL ns).map (gcdL 0 ns * ·) := ⟨gcdL_pos hx x0, lowL_back.symm⟩
theorem w__law_cut2 {T : Tk} {n : Nat} {a b : Int} {k : KD} (h0 : a ≠ 0 ∨ b ≠ 0) (sa : Sz n a) (sb : Sz n b) (hn : n ≤ 9000) (h : ∀ g c d, 0 < g → a = g * c → b = g * d → Sz n c → Sz n d → k (.tup [.int c, .int d]) T) : sm__law_cut [.val (.tup [.int a, .int b])] T k := by
  obtain ⟨x, hx, x0, sx⟩ : ∃ x, x ∈ [a, b] ∧ x ≠ 0 ∧ Sz n x := by
    rcases h0 with z | z
    · exact ⟨a, by simp, z, sa⟩
    · exact ⟨b, by simp, z, sb⟩
  obtain ⟨gp, e⟩ := cut_facts hx x0
  refine w__law_cut (ns := [a, b]) (by simp) hx x0 (sx.mono hn) ?_
  have t1 := sa.ediv (j := gcdL 0 [a, b])
  have t2 := sb.ediv (j := gcdL 0 [a, b])
  unfold lowL at e ⊢
  generalize gcdL 0 [a, b] = g at *
  simp only [List.map_cons, List.map_nil, List.cons.injEq, and_true] at e ⊢
  exact h g _ _ gp e.1 e.2 t1 t2
theorem w__law_cut4 {T : Tk} {n : Nat} {r : R4} {k : KD} (h0 : bnd r ≠ 0) (s : S4 n r) (hn : n ≤ 9000) (h : ∀ g t, 0 < g → r = mulR g t → S4 n t → k (rD t) T) : sm__law_cut [.val (rD r)] T k := by
  obtain ⟨a, b, c, d⟩ := r
  obtain ⟨x, hx, x0⟩ := mr_nz h0
  have sx : Sz n x := by
    simp only [List.mem_cons, List.not_mem_nil, or_false] at hx
    rcases hx with rfl | rfl | rfl | rfl
    · exact s.s1
    · exact s.s2
    · exact s.s3
    · exact s.s4
  obtain ⟨gp, e⟩ := cut_facts hx x0
  refine w__law_cut (ns := [a, b, c, d]) (by simp) hx x0 (sx.mono hn) ?_
  have t1 := s.s1.ediv (j := gcdL 0 [a, b, c, d])
  have t2 := s.s2.ediv (j := gcdL 0 [a, b, c, d])
  have t3 := s.s3.ediv (j := gcdL 0 [a, b, c, d])
  have t4 := s.s4.ediv (j := gcdL 0 [a, b, c, d])
  unfold lowL at e ⊢
  generalize gcdL 0 [a, b, c, d] = g at *
  simp only [List.map_cons, List.map_nil, List.cons.injEq, and_true] at e ⊢
  refine h g (a / g, b / g, c / g, d / g) gp ?_ ⟨t1, t2, t3, t4⟩
  unfold mulR
  simp only [Prod.mk.injEq]
  exact e
theorem pos_g {g c A : Int} (g0 : 0 < g) (e : A = g * c) (p : 0 < A) : 0 < c := by
  subst e
  rcases Int.lt_or_le 0 c with o | o
  · exact o
  · have := Int.mul_nonpos_of_nonneg_of_nonpos (Int.le_of_lt g0) o
    omega
/-- the world of a chain: n over m tells how far the two rounds are apart, a over b how far a link is from the next -/
structure Wld (n m a b : Int) : Prop where
  m0 : 0 < m
  nm : m < n
  n1 : n ≤ 300
  m1 : m ≤ 40
  rt : (a = 0 ∧ ∀ s, s * s ≠ 2 * m * (n + m)) ∨ (∃ R c, R * R = 2 * m * (n + m) ∧ 0 < a ∧ 0 < b ∧ 0 < c ∧ R = c * a ∧ m = c * b)
  a0 : 0 ≤ a
  b0 : 0 ≤ b
  a1 : a ≤ 30000
  b1 : b ≤ 40
def wlD (n m a b : Int) : D := .lst [.int n, .int m, .int a, .int b]
theorem sz_nat {n : Nat} {x : Int} (b : Int) (h0 : -b ≤ x) (h1 : x ≤ b) (h : b.toNat < 2 ^ n) : Sz n x := sz_le h0 h1 h
/-- where the law's link stands -/
def startOk (i j : Int) : Prop := (i ≠ 0 ∨ j ≠ 0) ∧ Sz 11 i ∧ Sz 3 j ∧ 0 ≤ j
theorem thd_pos {n m i j : Int} (m0 : 0 < m) (nm : m < n) (h : i ≠ 0 ∨ j ≠ 0) : 0 < thd n m i j := by
  unfold thd
  have h1 := mul_self_nonneg' (i * m)
  have hN : 0 < n * n - m * m := by
    rw [show n * n - m * m = (n - m) * (n + m) by grind]
    exact Int.mul_pos (by omega) (by omega)
  have h2 : 0 ≤ j * j * (n * n - m * m) := Int.mul_nonneg (mul_self_nonneg' j) (Int.le_of_lt hN)
  rw [show i * i * m * m = i * m * (i * m) by grind]
  rcases h with z | z
  · have := imul_self_pos (Int.mul_ne_zero z (show m ≠ 0 by omega))
    omega
  · have := Int.mul_pos (imul_self_pos z) hN
    omega
theorem sz_thd {s : Nat} {n m i j : Int} (w0 : 0 < m) (nm : m < n) (n1 : n ≤ 300) (m1 : m ≤ 40) (hi : Sz s i) (hj : Sz s j) : Sz (2 * s + 20) (thd n m i j) := by
  have sm : Sz 6 m := sz_nat 40 (by omega) (by omega) (by decide)
  have sn : Sz 9 n := sz_nat 300 (by omega) (by omega) (by decide)
  unfold thd
  exact ((((hi.mul hi).mul sm).mul sm).add ((hj.mul hj).mul ((sn.mul sn).sub (sm.mul sm)))).mono (by omega)
theorem sz_ln {s : Nat} {n m i j F : Int} (w0 : 0 < m) (nm : m < n) (n1 : n ≤ 300) (m1 : m ≤ 40) (hi : Sz s i) (hj : Sz s j) (hF : Sz 16 F) : S4 (2 * s + 21) (lnR F (thd n m i j) i j) :=
  ⟨((hF.mul hj).mul hj).mono (by omega), by rw [show (lnR F (thd n m i j) i j).2.1 = 0 - 2 * i * j * F from rfl, Int.zero_sub]; exact (((sz_2.mul hi).mul hj).mul hF).neg.mono (by omega), by rw [show (lnR F (thd n m i j) i j).2.2.1 = 0 - thd n m i j from rfl, Int.zero_sub]; exact (sz_thd w0 nm n1 m1 hi hj).neg.mono (by omega), ((hF.mul hi).mul hi).mono (by omega)⟩
theorem bnd_lnT (F n m i j : Int) (hF : F = (n + m) * m ∨ F = (n - m) * m) : bnd (lnR F (thd n m i j) i j) = thd n m i j * thd n m i j := by unfold bnd lnR; simp only; grind
theorem w__law_start {T : Tk} {k : KD} (hT : TkS T) (h : ∀ i j T', startOk i j → TkS T' → k (.tup [.int i, .int j]) T') : sm__law_start [.tank] T k := by
  rw [e__law_start, b__law_start]
  walk_at "wk"
  refine w__law_dip hT (by decide) (by decide) fun w T1 w0 w1 hT1 => ?_
  walk_at "wk"
  refine iteB_of (fun c => ?_) (fun c => ?_)
  · walk_at "wk"
    exact h 1 0 T1 ⟨.inl (by decide), sz_nat 1 (by decide) (by decide) (by decide), sz_0, by decide⟩ hT1
  · walk_at "wk"
    refine w__law_of hT1 (by simp) (by simp) fun x T2 hx hT2 => ?_
    obtain ⟨w, rfl, w0, w1⟩ : ∃ w : Int, x = .int w ∧ 0 ≤ w ∧ w ≤ 40 := by
      simp only [List.mem_cons, List.not_mem_nil, or_false] at hx
      rcases hx with rfl | rfl | rfl | rfl <;> exact ⟨_, rfl, by decide, by decide⟩
    walk_at "wk"
    refine w__law_whole hT2 w0 (by omega) fun r T3 r0 r1 _ hT3 => ?_
    walk_at "wk"
    refine w__law_dip hT3 (by decide) (by decide) fun y T4 y0 y1 hT4 => ?_
    have sy : Sz 3 (1 + y) := sz_nat 5 (by omega) (by omega) (by decide)
    have sr : Sz 11 r := sz_nat 1100 (by omega) (by omega) (by decide)
    walk_at "wk"
    refine w__law_cut2 (n := 11) (.inr (by omega)) sr (sy.mono (by decide)) (by decide) fun g c d g0 e1 e2 t1 t2 => ?_
    have d0 := pos_g g0 e2 (by omega)
    have k : ∀ h x : Int, 0 < h → 0 < x → x ≤ h * x := fun h x hh hx => by
      have := Int.mul_nonneg (show 0 ≤ h - 1 by omega) (Int.le_of_lt hx)
      have e : (h - 1) * x = h * x - x := by grind
      omega
    have := k g d g0 d0
    exact h c d T4 ⟨.inr (by omega), t1, sz_nat 5 (by omega) (by omega) (by decide), by omega⟩ hT4

theorem ln_D (F t i j : Int) : D.tup [.int (F * j * j), .int (0 - 2 * i * j * F), .int (0 - t), .int (F * i * i)] = rD (lnR F t i j) := rfl
theorem wld_f {n m a b : Int} (hw : Wld n m a b) : Sz 16 ((n + m) * m) ∧ Sz 16 ((n - m) * m) ∧ Sz 6 m ∧ Sz 9 n := by
  have h1 := hw.m0
  have h2 := hw.nm
  have sm : Sz 6 m := sz_nat 40 (by omega) hw.m1 (by decide)
  have sn : Sz 9 n := sz_nat 300 (by omega) hw.n1 (by decide)
  exact ⟨((sn.add sm).mul sm).mono (by omega), ((sn.sub sm).mul sm).mono (by omega), sm, sn⟩
theorem w__law_link {T : Tk} {s : Nat} {n m a b i j : Int} {k : KD} (hw : Wld n m a b) (hi : Sz s i) (hj : Sz s j) (ne : i ≠ 0 ∨ j ≠ 0) (hs : s ≤ 400) (h : ∀ t g, g ≠ 0 → lnR ((n + m) * m) (thd n m i j) i j = mulR g t → Rd (2 * s + 21) t → k (rD t) T) : sm__law_link [.val (wlD n m a b), .val (.tup [.int i, .int j])] T k := by
  obtain ⟨F1, F2, sm, sn⟩ := wld_f hw
  have tp := thd_pos hw.m0 hw.nm ne
  have sl := sz_ln (F := (n + m) * m) hw.m0 hw.nm hw.n1 hw.m1 hi hj F1
  have bl : 0 < bnd (lnR ((n + m) * m) (thd n m i j) i j) := by rw [bnd_lnT _ _ _ _ _ (.inl rfl)]; exact Int.mul_pos tp tp
  have mm : ∀ x : Int, MulOk x m := fun x => lit_mul' (by have := hw.m0; have := hw.m1; omega)
  have fm : ∀ {c d : Nat} {x y : Int}, Sz c x → Sz d y → c ≤ 1000 → d ≤ 1000 → MulOk x y := fun h1 h2 l1 l2 => h1.mulOk h2 (by omega) (by omega)
  rw [e__law_link, b__law_link, show wlD n m a b = .lst [.int n, .int m, .int a, .int b] from rfl]
  walk_at "wk"
  refine ⟨mm _, fm hi hi (by omega) (by omega), mm _, mm _, fm hj hj (by omega) (by omega), fm sn sn (by omega) (by omega), mm _, fm (hj.mul hj) ((sn.mul sn).sub (sm.mul sm)) (by omega) (by omega), fm F1 hj (by omega) (by omega), fm (F1.mul hj) hj (by omega) (by omega), lit_mul (by decide), fm (sz_2.mul hi) hj (by omega) (by omega), fm ((sz_2.mul hi).mul hj) F1 (by omega) (by omega), fm F1 hi (by omega) (by omega), fm (F1.mul hi) hi (by omega) (by omega), ?_⟩
  rw [show i * i * m * m + j * j * (n * n - m * m) = thd n m i j from rfl, ln_D]
  exact w__law_formR bl sl (by omega) h
theorem nIJ_ne {a b i j σ : Int} (a0 : 0 < a) (b0 : 0 < b) (hσ : σ = 1 ∨ σ = -1) (ne : i ≠ 0 ∨ j ≠ 0) : nI a b i j σ ≠ 0 ∨ nJ a b i j σ ≠ 0 := by
  by_cases hJ : nJ a b i j σ = 0
  · refine .inl fun hI => ?_
    unfold nJ at hJ
    unfold nI at hI
    have b3 : 4 * b * b * b ≠ 0 := by
      have := Int.mul_pos (Int.mul_pos b0 b0) b0
      rw [show 4 * b * b * b = 4 * (b * b * b) by grind]
      omega
    have e1 : a * j = σ * b * i := by have := (Int.mul_eq_zero.mp hJ).resolve_left b3; omega
    have e2 := (Int.mul_eq_zero.mp hI).resolve_left (by omega)
    have hs : σ * σ = 1 := by rcases hσ with rfl | rfl <;> rfl
    have e3 : b * (a * a) * i = 0 := by
      have k : i * (4 * b * b * b) + σ * j * (a * (a * a - 4 * b * b)) = b * (a * a) * i := by
        rw [show i * (4 * b * b * b) + σ * j * (a * (a * a - 4 * b * b)) = i * (4 * b * b * b) + σ * (a * j) * (a * a - 4 * b * b) by grind, e1, show i * (4 * b * b * b) + σ * (σ * b * i) * (a * a - 4 * b * b) = i * (4 * b * b * b) + σ * σ * (b * i * (a * a - 4 * b * b)) by grind, hs]
        grind
      rw [← k, e2]
    have i0 : i = 0 := (Int.mul_eq_zero.mp e3).resolve_left (Int.mul_ne_zero (by omega) (Int.mul_ne_zero (by omega) (by omega)))
    rw [i0, Int.mul_zero] at e1
    have j0 : j = 0 := (Int.mul_eq_zero.mp e1).resolve_left (by omega)
    omega
  · exact .inr hJ
theorem w__law_led_round {T : Tk} {n l : Nat} {f : Int} {m : G4} {r : R4} {k : KD} (hm : Mq n f m) (hr : S4 l r) (b : 0 < bnd r) (hn : 2 * n + l ≤ 8000) (h : ∀ t g, g ≠ 0 → RB f (Bk f m) r = mulR g t → Rd (2 * n + l + 8) t → k (rD t) T) : sm__law_led_round [.val (mD f m), .val (rD r)] T k := by
  have nb := n4_bk (f := f) hm.n4
  have db := dt_bk (f := f) hm.dt
  have bp : 0 < bnd (RB f (Bk f m) r) := by
    rw [bnd_rb]
    exact Int.mul_pos (Gi.nm_pos db) b
  rw [e__law_led_round, b__law_led_round]
  walk_at "wk"
  refine w__law_backW hm.fl ?_
  walk_at "wk"
  refine w__law_row_backW hm.fl nb hr (by omega) ?_
  walk_at "wk"
  exact w__law_formR bp (sz_rb nb hr) (by omega) h
theorem P2_D (n m : Int) : D.tup [.int (m * m), .int 0, .int (0 - 2 * n * m), .int (n * n - m * m)] = rD (P2R n m) := rfl
theorem P2_b (n m : Int) : bnd (P2R n m) = 4 * (m * m * (m * m)) := by unfold bnd P2R; simp only; grind
theorem w__law_pair_of {T : Tk} {n m a b : Int} {k : KD} (hw : Wld n m a b) (h : ∀ g t, 0 < g → P2R n m = mulR g t → S4 20 t → k (.lst [rD axR, rD t]) T) : sm__law_pair_of [.val (wlD n m a b)] T k := by
  obtain ⟨F1, F2, sm, sn⟩ := wld_f hw
  have m0 := hw.m0
  have s : S4 20 (P2R n m) := ⟨(sm.mul sm).mono (by decide), sz_0, by rw [show (P2R n m).2.2.1 = 0 - 2 * n * m from rfl, Int.zero_sub]; exact ((sz_2.mul sn).mul sm).neg.mono (by decide), ((sn.mul sn).sub (sm.mul sm)).mono (by decide)⟩
  have b0 : bnd (P2R n m) ≠ 0 := by
    rw [P2_b]
    have := Int.mul_pos (Int.mul_pos m0 m0) (Int.mul_pos m0 m0)
    omega
  have mm : ∀ x : Int, MulOk x m := fun x => lit_mul' (by have := hw.m0; have := hw.m1; omega)
  rw [e__law_pair_of, b__law_pair_of, show wlD n m a b = .lst [.int n, .int m, .int a, .int b] from rfl]
  walk_at "wk"
  refine ⟨mm _, lit_mul (by decide), mm _, sn.mulOk sn (by decide) (by decide), mm _, ?_⟩
  rw [P2_D]
  refine w__law_cut4 b0 s (by decide) fun g t g0 e st => ?_
  walk_at "wk"
  exact h g t g0 e st
theorem lkB_swap (x y z : R4) : lkB y x z = lkB x y z := by
  unfold lkB
  rw [jn_comm y x, show jn z y * jn z x * jn x y = jn z x * jn z y * jn x y by grind]
  cases decide (jn z y * jn z y = bnd z * bnd y) <;> cases decide (jn z x * jn z x = bnd z * bnd x) <;> rfl
theorem wgt_swap (x y : R4) : wgt y x = wgt x y := by unfold wgt; rw [jn_comm y x, Int.mul_comm (bnd y)]
theorem inn_swap (x y z : R4) : inn y x z = inn x y z := by
  unfold inn
  rw [jn_comm y x]
  unfold mixR2 addR
  simp only [Prod.mk.injEq]
  refine ⟨Int.add_comm _ _, Int.add_comm _ _, Int.add_comm _ _, Int.add_comm _ _⟩
theorem out_swap (x y z : R4) : outR y x z = outR x y z := by unfold outR; rw [inn_swap, wgt_swap]
theorem mid_swap (x y z : R4) : midR y x z = midR x y z := by unfold midR; rw [out_swap, inn_swap]
theorem acr_swap (x y z : R4) : acr y x z = mulR (-1) (acr x y z) := by
  unfold acr cr4 dt3 mnr wR mulR
  simp only [Prod.mk.injEq]
  refine ⟨?_, ?_, ?_, ?_⟩ <;> grind
theorem bacr_swap (x y z : R4) : bnd (acr y x z) = bnd (acr x y z) := by rw [acr_swap, bnd_mulR]; grind
theorem sqn_swap (x y z : R4) : sqn y x z = sqn x y z := by unfold sqn; rw [wgt_swap, out_swap, mid_swap, bacr_swap]
theorem nbr_swap (x y z : R4) (w : Int) : nbr y x z w = nbr x y z (-w) := by
  unfold nbr
  rw [mid_swap, bacr_swap, acr_swap]
  unfold mixR2 addR mulR
  simp only [Prod.mk.injEq]
  refine ⟨?_, ?_, ?_, ?_⟩ <;> grind
theorem wgt_ne {x y : R4} (ap : 0 < wgt x y) : x ≠ y := fun e => by
  subst e
  unfold wgt at ap
  rw [jn_self] at ap
  omega
theorem pos_of_sq {s A B : Int} (s0 : s ≠ 0) (e : s * s * A = B) (b : 0 < B) : 0 < A := by
  rcases Int.lt_or_le 0 A with o | o
  · exact o
  · have := Int.mul_nonpos_of_nonneg_of_nonpos (mul_self_nonneg' s) o
    omega
theorem neg_of_sq {s A B : Int} (e : s * s * A = B) (b : B < 0) : A < 0 := by
  rcases Int.lt_or_le A 0 with o | o
  · exact o
  · have := Int.mul_nonneg (mul_self_nonneg' s) o
    omega
section
variable {f : Int} {g : G4} {x y z z0 : R4} {α β γ m p T : Int}
theorem tri_wgt (h : Tri f g axR (P2R (p - m) m) z0 x y z α β γ) (m0 : 0 < m) (d0 : 0 < p - 2 * m) : 0 < wgt x y := by
  obtain ⟨e, _, _⟩ := h.poly
  rw [wgt_0] at e
  have δ := Gi.nm_pos h.dt
  refine pos_of_sq (s := α * β) (Int.mul_ne_zero h.a0 h.b0) (B := (dtG g).nm * (dtG g).nm * (4 * (m * m) * ((p - 2 * m) * p))) (by rw [← e]; grind) ?_
  exact Int.mul_pos (Int.mul_pos δ δ) (Int.mul_pos (Int.mul_pos (by decide) (Int.mul_pos m0 m0)) (Int.mul_pos d0 (by omega)))
theorem tri_lk (h : Tri f g axR (P2R (p - m) m) z0 x y z α β γ) (m0 : 0 < m) (d0 : 0 < p - 2 * m) (t0 : 0 < T) (bz : bnd z0 = T * T) (jx : jn z0 axR = -T) {σ : Int} (hσ : σ = 1 ∨ σ = -1) (jy : jn z0 (P2R (p - m) m) = -2 * (m * m) * T * σ) : lkB x y z = decide (σ = 1) := by
  have δ := Gi.nm_pos h.dt
  have e1 := tr_bnd h.tx
  have e2 := tr_bnd h.ty
  have e3 := tr_bnd h.tz
  have e4 := tr_jn h.tx h.ty
  have e5 := tr_jn h.tz h.tx
  have e6 := tr_jn h.tz h.ty
  rw [Int.mul_one, Int.one_mul] at e1 e2 e3 e4 e5 e6
  rw [bnd_ax] at e1
  rw [bnd_P2] at e2
  rw [bz] at e3
  rw [jn_axP2] at e4
  rw [jx] at e5
  rw [jy] at e6
  have hs : σ * σ = 1 := by rcases hσ with rfl | rfl <;> rfl
  have aa := Int.mul_ne_zero (Int.mul_ne_zero h.c0 h.c0) (Int.mul_ne_zero h.a0 h.a0)
  have bb := Int.mul_ne_zero (Int.mul_ne_zero h.c0 h.c0) (Int.mul_ne_zero h.b0 h.b0)
  have q1 : jn z x * jn z x = bnd z * bnd x := by
    refine Int.eq_of_mul_eq_mul_left aa ?_
    rw [show γ * γ * (α * α) * (jn z x * jn z x) = (γ * α * jn z x) * (γ * α * jn z x) by grind, show γ * γ * (α * α) * (bnd z * bnd x) = (γ * γ * bnd z) * (α * α * bnd x) by grind, e1, e3, e5]
    grind
  have q2 : jn z y * jn z y = bnd z * bnd y := by
    refine Int.eq_of_mul_eq_mul_left bb ?_
    rw [show γ * γ * (β * β) * (jn z y * jn z y) = (γ * β * jn z y) * (γ * β * jn z y) by grind, show γ * γ * (β * β) * (bnd z * bnd y) = (γ * γ * bnd z) * (β * β * bnd y) by grind, e2, e3, e6, show (dtG g).nm * (-2 * (m * m) * T * σ) * ((dtG g).nm * (-2 * (m * m) * T * σ)) = σ * σ * ((dtG g).nm * (dtG g).nm * (4 * (m * m * (m * m)) * (T * T))) by grind, hs]
    grind
  have q3 : (α * β * γ) * (α * β * γ) * (jn z x * jn z y * jn x y) = -(4 * (dtG g).nm ^ 3 * (T * T) * (m * m * m) * (p - m)) * σ := by
    rw [show (α * β * γ) * (α * β * γ) * (jn z x * jn z y * jn x y) = (γ * α * jn z x) * (γ * β * jn z y) * (α * β * jn x y) by grind, e4, e5, e6]
    grind
  have pos : 0 < 4 * (dtG g).nm ^ 3 * (T * T) * (m * m * m) * (p - m) := Int.mul_pos (Int.mul_pos (Int.mul_pos (Int.mul_pos (by decide) (Int.pow_pos δ)) (Int.mul_pos t0 t0)) (Int.mul_pos (Int.mul_pos m0 m0) m0)) (by omega)
  unfold lkB
  rw [decide_eq_true q1, decide_eq_true q2, Bool.true_and, Bool.true_and]
  refine decide_eq_decide.mpr ?_
  rcases hσ with rfl | rfl
  · exact ⟨fun _ => rfl, fun _ => neg_of_sq q3 (by omega)⟩
  · refine ⟨fun z => ?_, fun z => absurd z (by decide)⟩
    have := pos_of_sq (Int.mul_ne_zero (Int.mul_ne_zero h.a0 h.b0) h.c0) q3 (by omega)
    omega
end

section
variable {f : Int} {g : G4} {x y z : R4} {α β γ m p i j : Int}
theorem nx_SW (h : Tri f g axR (P2R (p - m) m) (lnR (p * m) (tR m p i j) i j) x y z α β γ) (m0 : 0 < m) (d0 : 0 < p - 2 * m) (t0 : 0 < tR m p i j) : ∃ S W : Int, S ≠ 0 ∧ W ≠ 0 ∧ S * S * sqn x y z = W * W * (2 * m * p) := by
  have δ := h.nm
  have t := Int.mul_ne_zero (Int.mul_ne_zero h.a0 h.b0) h.c0
  have p0 : p ≠ 0 := by omega
  have m0' : m ≠ 0 := by omega
  have d0' : p - 2 * m ≠ 0 := by omega
  have t0' : tR m p i j ≠ 0 := by omega
  refine ⟨_, _, ?_, ?_, sqn_tr h m0' p0 t0'⟩
  · exact Int.mul_ne_zero (Int.pow_ne_zero (Int.mul_ne_zero (Int.mul_ne_zero (Int.mul_ne_zero h.a0 h.a0) (Int.mul_ne_zero h.b0 h.b0)) h.c0)) t
  · unfold YR
    exact Int.mul_ne_zero (Int.mul_ne_zero (Int.mul_ne_zero (Int.mul_ne_zero (by decide) (Int.mul_ne_zero p0 m0')) t0') (Int.pow_ne_zero δ)) (Int.mul_ne_zero (Int.mul_ne_zero (Int.mul_ne_zero (Int.mul_ne_zero (by decide) (Int.pow_ne_zero t0')) (Int.pow_ne_zero m0')) (Int.pow_ne_zero p0)) (Int.pow_ne_zero d0'))
theorem nx_pos (h : Tri f g axR (P2R (p - m) m) (lnR (p * m) (tR m p i j) i j) x y z α β γ) (m0 : 0 < m) (d0 : 0 < p - 2 * m) (t0 : 0 < tR m p i j) : 0 < sqn x y z := by
  obtain ⟨S, W, S0, W0, e⟩ := nx_SW h m0 d0 t0
  exact pos_of_sq S0 e (Int.mul_pos (imul_self_pos W0) (Int.mul_pos (by omega) (by omega)))
/-- both rounds that the program finds are both that the law steps to -/
theorem nx_two {D1 D2 : R4} {N : Nat} {a b c R r : Int} (h : Tri f g axR (P2R (p - m) m) (lnR (p * m) (tR m p i j) i j) x y z α β γ) (m0 : 0 < m) (d0 : 0 < p - 2 * m) (t0 : 0 < tR m p i j) (hr : r * r = sqn x y z) (hR : R * R = 2 * m * p) (a0 : 0 < a) (b0 : 0 < b) (c0 : 0 < c) (eR : R = c * a) (em : m = c * b)
    (h1 : Rd N D1) (h2 : Rd N D2) (e1 : ∃ q : Int, q ≠ 0 ∧ RB f g (lnR (p * m) (tR m p (nI a b i j 1) (nJ a b i j 1)) (nI a b i j 1) (nJ a b i j 1)) = mulR q D1) (e2 : ∃ q : Int, q ≠ 0 ∧ RB f g (lnR (p * m) (tR m p (nI a b i j (-1)) (nJ a b i j (-1))) (nI a b i j (-1)) (nJ a b i j (-1))) = mulR q D2) :
    0 < bnd (nbr x y z (-r)) ∧ 0 < bnd (nbr x y z r) ∧ ∀ u v q q', q ≠ 0 → q' ≠ 0 → nbr x y z (-r) = mulR q u → nbr x y z r = mulR q' v → Rd 9000 u → Rd 9000 v → srR [u, v] = srR [D1, D2] := by
  obtain ⟨ε, hε, e⟩ := nbr_due h (by omega) (by omega) (by omega) (by omega) hr hR (by omega) (by omega) (by omega) eR em
  obtain ⟨A1, B1, A10, B10, k1⟩ := e 1 (.inl rfl)
  obtain ⟨A2, B2, A20, B20, k2⟩ := e (-1) (.inr rfl)
  obtain ⟨q1, q10, f1⟩ := e1
  obtain ⟨q2, q20, f2⟩ := e2
  rw [f1, mulR_mulR] at k1
  rw [f2, mulR_mulR] at k2
  have pos : ∀ (X D : R4) (A B : Int), A ≠ 0 → B ≠ 0 → mulR A X = mulR B D → Rd N D → 0 < bnd X := fun X D A B hA hB he hD => by
    have := congrArg bnd he
    rw [bnd_mulR, bnd_mulR] at this
    exact pos_of_sq hA this (Int.mul_pos (imul_self_pos hB) hD.bend)
  have same : ∀ (X D u : R4) (A B q : Int), A ≠ 0 → B ≠ 0 → mulR A X = mulR B D → Rd N D → q ≠ 0 → X = mulR q u → Rd 9000 u → u = D := fun X D u A B q hA hB he hD hq hx hu => by
    rw [hx, mulR_mulR] at he
    exact rd_mulR hu hD (Int.mul_ne_zero hA hq) hB he
  rcases hε with rfl | rfl
  · rw [show (1 : Int) * 1 * r = r by omega] at k1
    rw [show (-1 : Int) * 1 * r = -r by omega] at k2
    refine ⟨pos _ _ _ _ A20 (Int.mul_ne_zero B20 q20) k2 h2, pos _ _ _ _ A10 (Int.mul_ne_zero B10 q10) k1 h1, fun u v q q' z1 z2 g1 g2 hu hv => ?_⟩
    rw [same _ _ _ _ _ _ A20 (Int.mul_ne_zero B20 q20) k2 h2 z1 g1 hu, same _ _ _ _ _ _ A10 (Int.mul_ne_zero B10 q10) k1 h1 z2 g2 hv]
    exact srR_congr (List.Perm.swap _ _ [])
  · rw [show (1 : Int) * -1 * r = -r by omega] at k1
    rw [show (-1 : Int) * -1 * r = r by omega] at k2
    refine ⟨pos _ _ _ _ A10 (Int.mul_ne_zero B10 q10) k1 h1, pos _ _ _ _ A20 (Int.mul_ne_zero B20 q20) k2 h2, fun u v q q' z1 z2 g1 g2 hu hv => ?_⟩
    rw [same _ _ _ _ _ _ A10 (Int.mul_ne_zero B10 q10) k1 h1 z1 g1 hu, same _ _ _ _ _ _ A20 (Int.mul_ne_zero B20 q20) k2 h2 z2 g2 hv]
end

/-- links of one world touch where one is the next of the other -/
theorem jn_links (m p i j I J : Int) : jn (lnR (p * m) (tR m p i j) i j) (lnR (p * m) (tR m p I J) I J) = tR m p i j * tR m p I J - 2 * (p * m * (i * J - j * I)) * (p * m * (i * J - j * I)) := by
  unfold jn lnR
  simp only
  grind
theorem nIJ_cross (a b i j σ : Int) (hσ : σ = 1 ∨ σ = -1) : i * nJ a b i j σ - j * nI a b i j σ = -σ * (4 * (b * b * (b * b)) * (i * i) + a * a * (a * a - 4 * (b * b)) * (j * j)) := by
  unfold nI nJ
  rcases hσ with rfl | rfl <;> grind
theorem tR_hom (m p i j c : Int) : tR (c * m) (c * p) i j = c * c * tR m p i j := by unfold tR; grind
theorem tR_next (a b i j σ : Int) (hσ : σ = 1 ∨ σ = -1) : tR (2 * b * b) (a * a) (nI a b i j σ) (nJ a b i j σ) = 4 * (a * a * (a * a)) * (b * b * (b * b)) * tR (2 * b * b) (a * a) i j := by
  unfold tR nI nJ
  rcases hσ with rfl | rfl <;> grind
theorem cross_tR (a b i j σ : Int) (hσ : σ = 1 ∨ σ = -1) : i * nJ a b i j σ - j * nI a b i j σ = -σ * tR (2 * b * b) (a * a) i j := by
  rw [nIJ_cross a b i j σ hσ]
  unfold tR
  grind
/-- a link and the next one: the square of their joint -/
theorem jn_next {m p a b c i j σ : Int} (hσ : σ = 1 ∨ σ = -1) (b0 : b ≠ 0) (c0 : c ≠ 0) (hp : 2 * b * p = c * (a * a)) (em : m = c * b) :
    jn (lnR (p * m) (tR m p i j) i j) (lnR (p * m) (tR m p (nI a b i j σ) (nJ a b i j σ)) (nI a b i j σ) (nJ a b i j σ)) = -(tR m p i j * tR m p (nI a b i j σ) (nJ a b i j σ)) := by
  rw [jn_links, cross_tR a b i j σ hσ]
  have m2 : 2 * b * m = c * (2 * b * b) := by rw [em]; grind
  have k1 := tR_hom m p i j (2 * b)
  have k2 := tR_hom m p (nI a b i j σ) (nJ a b i j σ) (2 * b)
  have k3 := tR_hom (2 * b * b) (a * a) i j c
  have k4 := tR_hom (2 * b * b) (a * a) (nI a b i j σ) (nJ a b i j σ) c
  have k5 := tR_next a b i j σ hσ
  rw [hp, m2, k3] at k1
  rw [hp, m2, k4, k5] at k2
  have hs : σ * σ = 1 := by rcases hσ with rfl | rfl <;> rfl
  generalize tR m p i j = T at *
  generalize tR m p (nI a b i j σ) (nJ a b i j σ) = T' at *
  generalize tR (2 * b * b) (a * a) i j = E at *
  have bb : 2 * b * (2 * b) * (2 * b * (2 * b)) ≠ 0 := by
    have := Int.mul_ne_zero (show (2 : Int) ≠ 0 by decide) b0
    exact Int.mul_ne_zero (Int.mul_ne_zero this this) (Int.mul_ne_zero this this)
  have key : p * m * (-σ * E) * (p * m * (-σ * E)) = T * T' := by
    refine Int.eq_of_mul_eq_mul_left bb ?_
    rw [show 2 * b * (2 * b) * (2 * b * (2 * b)) * (T * T') = (2 * b * (2 * b) * T) * (2 * b * (2 * b) * T') by grind, ← k1, ← k2, show 2 * b * (2 * b) * (2 * b * (2 * b)) * (p * m * (-σ * E) * (p * m * (-σ * E))) = σ * σ * ((2 * b * p) * (2 * b * p) * ((2 * b * m) * (2 * b * m)) * (E * E)) by grind, hs, hp, m2]
    grind
  rw [show 2 * (p * m * (-σ * E)) * (p * m * (-σ * E)) = 2 * (p * m * (-σ * E) * (p * m * (-σ * E))) by grind, key]
  omega

theorem touch_due {f : Int} {g : G4} {z D : R4} {γ θ m p i j I J : Int} (hf : f = 0 ∨ f = 1) (dt : dtG g ≠ 0) (γ0 : γ ≠ 0) (θ0 : θ ≠ 0) (m0 : 0 < m) (p0 : 0 < p) (t0 : 0 < tR m p i j) (t1 : 0 < tR m p I J) (ne : i ≠ 0 ∨ j ≠ 0)
    (ez : RB f g (lnR (p * m) (tR m p i j) i j) = mulR γ z) (eD : RB f g (lnR (p * m) (tR m p I J) I J) = mulR θ D) (hJ : jn (lnR (p * m) (tR m p i j) i j) (lnR (p * m) (tR m p I J) I J) = -(tR m p i j * tR m p I J)) (bz : 0 < bnd z) :
    z ≠ D ∧ jn z D * jn z D = bnd z * bnd D := by
  have δ := Gi.nm_pos dt
  have e1 := bnd_rb f g (lnR (p * m) (tR m p i j) i j)
  have e2 := bnd_rb f g (lnR (p * m) (tR m p I J) I J)
  have e3 := jn_rb f g (lnR (p * m) (tR m p i j) i j) (lnR (p * m) (tR m p I J) I J)
  rw [ez, bnd_mulR, bnd_ln] at e1
  rw [eD, bnd_mulR, bnd_ln] at e2
  rw [ez, eD, jn_mulR, hJ] at e3
  refine ⟨fun e => ?_, ?_⟩
  · subst e
    rw [jn_self] at e3
    have neg : γ * θ < 0 := by
      rcases Int.lt_or_le (γ * θ) 0 with o | o
      · exact o
      · have k1 := Int.mul_nonneg o (Int.le_of_lt bz)
        have k2 := Int.mul_pos δ (Int.mul_pos t0 t1)
        rw [e3] at k1
        have : (dtG g).nm * -(tR m p i j * tR m p I J) = -((dtG g).nm * (tR m p i j * tR m p I J)) := by grind
        omega
    have k : mulR θ (RB f g (lnR (p * m) (tR m p i j) i j)) = mulR γ (RB f g (lnR (p * m) (tR m p I J) I J)) := by rw [ez, eD, mulR_mulR, mulR_mulR, Int.mul_comm]
    have k := congrArg (RB f (Bk f g)) k
    rw [rb_mul, rb_mul, rb_back' hf, rb_back' hf, mulR_mulR, mulR_mulR] at k
    unfold mulR lnR at k
    simp only [Prod.mk.injEq] at k
    have pm := Int.mul_pos p0 m0
    have zero : ∀ u v : Int, θ * (dtG g).nm * (p * m * u * u) = γ * (dtG g).nm * (p * m * v * v) → u = 0 := fun u v q => by
      have q2 : (dtG g).nm * (p * m) * (θ * (u * u)) = (dtG g).nm * (p * m) * (γ * (v * v)) := by grind
      have q3 := Int.eq_of_mul_eq_mul_left (show (dtG g).nm * (p * m) ≠ 0 from Int.mul_ne_zero (by omega) (by omega)) q2
      have q4 : γ * θ * (u * u) = γ * v * (γ * v) := by
        rw [show γ * θ * (u * u) = γ * (θ * (u * u)) by grind, q3]
        grind
      have q5 := mul_self_nonneg' (γ * v)
      by_cases z : u = 0
      · exact z
      · have := Int.mul_neg_of_neg_of_pos neg (imul_self_pos z)
        omega
    have j0 := zero j J k.1
    have i0 := zero i I k.2.2.2
    omega
  · refine Int.eq_of_mul_eq_mul_left (Int.mul_ne_zero (Int.mul_ne_zero γ0 γ0) (Int.mul_ne_zero θ0 θ0)) ?_
    rw [show γ * γ * (θ * θ) * (jn z D * jn z D) = γ * θ * jn z D * (γ * θ * jn z D) by grind, e3, show γ * γ * (θ * θ) * (bnd z * bnd D) = (γ * γ * bnd z) * (θ * θ * bnd D) by grind, e1, e2]
    grind

structure Two (x y z D1 D2 : R4) : Prop where
  pos : 0 < sqn x y z
  sq : ∃ s, s * s = sqn x y z
  two : ∀ r, 0 < r → r * r = sqn x y z → 0 < bnd (nbr x y z (-r)) ∧ 0 < bnd (nbr x y z r) ∧ ∀ u v q q', q ≠ 0 → q' ≠ 0 → nbr x y z (-r) = mulR q u → nbr x y z r = mulR q' v → Rd 9000 u → Rd 9000 v → srR [u, v] = srR [D1, D2]
theorem Two.swap {x y z D1 D2 : R4} (h : Two x y z D1 D2) : Two y x z D1 D2 := by
  refine ⟨by rw [sqn_swap]; exact h.pos, by rw [sqn_swap]; exact h.sq, fun r r0 e => ?_⟩
  rw [sqn_swap] at e
  obtain ⟨h1, h2, h3⟩ := h.two r r0 e
  have s1 : nbr y x z (-r) = nbr x y z r := by rw [nbr_swap, Int.neg_neg]
  have s2 : nbr y x z r = nbr x y z (-r) := nbr_swap _ _ _ _
  rw [s1, s2]
  exact ⟨h2, h1, fun u v q q' z1 z2 g1 g2 hu hv => by rw [srR_congr (List.Perm.swap v u [])]; exact h3 v u q' q z2 z1 g2 g1 hv hu⟩
theorem nx_Two {f : Int} {g : G4} {x y z D1 D2 : R4} {α β γ m p i j : Int} {N : Nat} {a b c R : Int} (h : Tri f g axR (P2R (p - m) m) (lnR (p * m) (tR m p i j) i j) x y z α β γ) (m0 : 0 < m) (d0 : 0 < p - 2 * m) (t0 : 0 < tR m p i j) (hR : R * R = 2 * m * p) (a0 : 0 < a) (b0 : 0 < b) (c0 : 0 < c) (eR : R = c * a) (em : m = c * b)
    (h1 : Rd N D1) (h2 : Rd N D2) (e1 : ∃ q : Int, q ≠ 0 ∧ RB f g (lnR (p * m) (tR m p (nI a b i j 1) (nJ a b i j 1)) (nI a b i j 1) (nJ a b i j 1)) = mulR q D1) (e2 : ∃ q : Int, q ≠ 0 ∧ RB f g (lnR (p * m) (tR m p (nI a b i j (-1)) (nJ a b i j (-1))) (nI a b i j (-1)) (nJ a b i j (-1))) = mulR q D2) : Two x y z D1 D2 := by
  refine ⟨nx_pos h m0 d0 t0, ?_, fun r _ hr => nx_two h m0 d0 t0 hr hR a0 b0 c0 eR em h1 h2 e1 e2⟩
  obtain ⟨S, W, S0, W0, e⟩ := nx_SW h m0 d0 t0
  obtain ⟨s, _, es⟩ := sq_quot (g := S) (n := sqn x y z) (c := W * R) S0 (by rw [e, ← hR]; grind)
  exact ⟨s, es⟩
theorem hp_of {a b c R m p : Int} (c0 : 0 < c) (eR : R * R = 2 * m * p) (e1 : R = c * a) (e2 : m = c * b) : 2 * b * p = c * (a * a) :=
  Int.eq_of_mul_eq_mul_left (show c ≠ 0 by omega) (by
    rw [show c * (2 * b * p) = 2 * (c * b) * p by grind, ← e2, ← eR, e1]
    grind)

theorem w_btw {T : Tk} {i : Int} {k : KD} (h1 : 1 ≤ i) (h2 : i ≤ 12) (h : k (.bl true) T) : sm_is_between [.val (.int i), .val (.int 1), .val (.int 12)] T k := by
  rw [e_is_between, b_is_between]
  walk_at "wk"
  refine w_is_whole ?_
  walk_at "wk"
  rw [decide_eq_true h1]
  walk_at "wk"
  rw [decide_eq_true h2]
  walk_at "wk"
  exact h
/-- what stands beside a link, as the program finds it -/
def NbIs (x y z : R4) (o : Option (List R4)) : Prop := ∀ (T : Tk) (k : KD), (match o with | none => k .non T | some l => k (.tup (l.map rD)) T) → sm_neighbours_of [.val (rD x), .val (rD y), .val (rD z)] T k
/-- a chain of n links -/
def Chn (x y : R4) (n : Nat) (f : Nat → R4) : Prop := ∀ j, j + 1 < n → ∃ u v, NbIs x y (f j) (some [u, v]) ∧ (j = 0 → f 1 = u) ∧ (0 < j → (u ≠ f (j - 1) ∧ f (j + 1) = u) ∨ (u = f (j - 1) ∧ v ≠ f (j - 1) ∧ f (j + 1) = v))
def chL (f : Nat → R4) (n : Nat) : List D := (List.range n).map fun j => rD (f j)
theorem chL_s (f : Nat → R4) (n : Nat) : chL f (n + 1) = chL f n ++ [rD (f n)] := by unfold chL; rw [List.range_succ, List.map_append]; rfl
theorem chL_len (f : Nat → R4) (n : Nat) : (chL f n).length = n := by unfold chL; simp
theorem chL_get (f : Nat → R4) {n i : Nat} (h : i < n) : (chL f n)[i]? = some (rD (f i)) := by
  unfold chL
  rw [List.getElem?_map, List.getElem?_range h]
  rfl
theorem chL_last2 (f : Nat → R4) (n : Nat) : atI (chL f (n + 2)) (-2) = some (rD (f n)) := by
  rw [chL_s, chL_s]
  unfold atI ixN
  rw [if_neg (by decide), if_pos (by rw [List.length_append, List.length_append, chL_len]; simp only [List.length_cons, List.length_nil]; omega)]
  show (chL f n ++ [rD (f n)] ++ [rD (f (n + 1))])[((-2 : Int) + _).toNat]? = _
  rw [List.append_assoc, List.length_append, chL_len, show ((-2 : Int) + ((n + ([rD (f n)] ++ [rD (f (n + 1))]).length : Nat) : Int)).toNat = n by simp only [List.length_append, List.length_cons, List.length_nil]; omega, List.getElem?_append_right (by rw [chL_len]; exact Nat.le_refl _), chL_len, Nat.sub_self]
  rfl
/-- the loop of links_on -/
theorem links_loop {T : Tk} {x y : R4} {n : Nat} {f : Nat → R4} {k : dEnds} (hT : D.noLL T) (hn : n ≤ 12) (n1 : 1 ≤ n) (c : Chn x y n f)
    (h : ∀ s5 s6, k.nx [some (.val (rD x)), some (.val (rD y)), some (.val (rD (f 0))), some (.val (.int n)), some (.own (chL f n)), s5, s6] T) :
    sWhile (dViewT 4 (dTst (dOp (oF fLt) (dBlt (oG fLen) (aCons (dVar 4) (aNil))) (dVar 3)))) (sSeq (sAsg (dView 4 (dCall 3 sm_neighbours_of (aCons (dVar 0) (aCons (dVar 1) (aCons (dOp (oF fIx) (dVar 4) (dNeg (dC (.int 1)))) (aNil)))))) (gN 5)) (sSeq (sIf (dTst (dIsN (dVar 5))) (sRet (dC .non)) ((fun k ρ T => k.nx ρ T))) (sApp 4 (dView 4 (dOp (oF fIx) (dLc [6] (iQ (dVar 5)) (cN 6) (dViewT 4 (dOr (dTst (dOp (oF fLt) (dBlt (oG fLen) (aCons (dVar 4) (aNil))) (dC (.int 2)))) (dTst (dOp (oF fNe) (dVar 6) (dOp (oF fIx) (dVar 4) (dNeg (dC (.int 2)))))))) (dVar 6)) (dC (.int 0))))))) k [some (.val (rD x)), some (.val (rD y)), some (.val (rD (f 0))), some (.val (.int n)), some (.own [rD (f 0)]), none, none] T := by
  refine ⟨fun m ρ T' => T' = T ∧ ∃ j s5 s6, 1 ≤ j ∧ j ≤ n ∧ m = n - j ∧ ρ = [some (.val (rD x)), some (.val (rD y)), some (.val (rD (f 0))), some (.val (.int n)), some (.own (chL f j)), s5, s6], ⟨n - 1, rfl, 1, none, none, Nat.le_refl _, n1, rfl, rfl⟩, ?_⟩
  rintro m ρ T' ⟨rfl, j, s5, s6, j1, jn, rfl, rfl⟩
  walk_at "wk"
  rw [chL_len]
  refine ⟨hT, ?_⟩
  by_cases q : j = n
  · subst q
    rw [decide_eq_false (by omega), if_neg (by decide)]
    exact h s5 s6
  rw [decide_eq_true (by omega), if_pos rfl]
  obtain ⟨i, rfl⟩ : ∃ i, j = i + 1 := ⟨j - 1, by omega⟩
  obtain ⟨u, v, nb, c0, c1⟩ := c i (by omega)
  walk_at "wk"
  rw [chL_get f (by omega)]
  walk_at "wk"
  refine nb _ _ ?_
  show _ ∧ _
  have nl : D.noL (.tup ([u, v].map rD)) := by simp only [List.map_cons, List.map_nil, noL_tup, noLL_cons, noLL_nil, noL_int, and_self]
  refine ⟨nl, hT, ?_⟩
  walk_at "wk"
  rw [chL_len]
  have nx : ∀ (s5 s6 : Option SV), ∃ m', m' < n - (i + 1) ∧ T' = T' ∧ ∃ j s5' s6', 1 ≤ j ∧ j ≤ n ∧ m' = n - j ∧ ([some (.val (rD x)), some (.val (rD y)), some (.val (rD (f 0))), some (.val (.int n)), some (.own (chL f (i + 1) ++ [rD (f (i + 1))])), s5, s6] : En) = [some (.val (rD x)), some (.val (rD y)), some (.val (rD (f 0))), some (.val (.int n)), some (.own (chL f j)), s5', s6'] := fun s5 s6 =>
    ⟨n - (i + 2), by omega, rfl, i + 2, s5, s6, by omega, by omega, rfl, by rw [chL_s f (i + 1)]⟩
  rcases Nat.eq_zero_or_pos i with i0 | i0
  · subst i0
    have c0 := c0 rfl
    rw [decide_eq_true (show ((0 + 1 : Nat) : Int) < 2 by decide)]
    walk_at "wk"
    rw [chL_len, decide_eq_true (show ((1 : Nat) : Int) < 2 by decide)]
    walk_at "wk"
    refine ⟨hT, ?_⟩
    obtain ⟨m', q1, _, q2⟩ := nx (some (.val (.tup [rD u, rD v]))) s6
    rw [show f (0 + 1) = u from c0] at q2
    exact ⟨m', q1, q2⟩
  obtain ⟨i, rfl⟩ : ∃ i', i = i' + 1 := ⟨i - 1, by omega⟩
  have c1 := c1 (by omega)
  rw [show i + 1 - 1 = i by omega] at c1
  have fin : ∀ (w : R4), f (i + 1 + 1) = w → ∃ m', m' < n - (i + 1 + 1) ∧ T' = T' ∧ ∃ j s5' s6', 1 ≤ j ∧ j ≤ n ∧ m' = n - j ∧ ([some (.val (rD x)), some (.val (rD y)), some (.val (rD (f 0))), some (.val (.int n)), some (.own (chL f (i + 1 + 1) ++ [rD w])), some (.val (.tup [rD u, rD v])), s6] : En) = [some (.val (rD x)), some (.val (rD y)), some (.val (rD (f 0))), some (.val (.int n)), some (.own (chL f j)), s5', s6'] := fun w e => by
    have q := nx (some (.val (.tup [rD u, rD v]))) s6
    rw [e] at q
    exact q
  clear nx h nb
  rw [decide_eq_false (show ¬ ((i + 1 + 1 : Nat) : Int) < 2 by omega), chL_last2]
  walk_at "wk"
  rw [r4_dc]
  rcases c1 with ⟨c1, c2⟩ | ⟨c1, c2, c3⟩
  · refine iteB_n (decide_eq_false c1) ?_
    walk_at "wk"
    rw [chL_len, decide_eq_false (show ¬ ((i + 1 + 1 : Nat) : Int) < 2 by omega), chL_last2]
    walk_at "wk"
    rw [r4_dc]
    by_cases c4 : v = f i
    · refine iteB_p (decide_eq_true c4) ?_
      walk_at "wk"
      refine ⟨hT, by omega, ?_⟩
      obtain ⟨m', q1, _, q2⟩ := fin u c2
      exact ⟨m', q1, q2⟩
    · refine iteB_n (decide_eq_false c4) ?_
      walk_at "wk"
      refine ⟨hT, by omega, ?_⟩
      obtain ⟨m', q1, _, q2⟩ := fin u c2
      exact ⟨m', q1, q2⟩
  · refine iteB_p (decide_eq_true c1) ?_
    walk_at "wk"
    rw [chL_len, decide_eq_false (show ¬ ((i + 1 + 1 : Nat) : Int) < 2 by omega), chL_last2]
    walk_at "wk"
    rw [r4_dc]
    refine iteB_n (decide_eq_false c2) ?_
    walk_at "wk"
    refine ⟨hT, by omega, ?_⟩
    obtain ⟨m', q1, _, q2⟩ := fin v c3
    exact ⟨m', q1, q2⟩
theorem w_links_on_c {T : Tk} {l : Nat} {x y : R4} {n : Nat} {f : Nat → R4} {k : KD} (hT : D.noLL T) (hx : Rd l x) (hy : Rd l y) (hz : Rd l (f 0)) (hl : l ≤ 900) (ne : x ≠ y) (ap : 0 < wgt x y) (lk : lkB x y (f 0) = true) (n1 : 1 ≤ n) (n2 : n ≤ 12) (c : Chn x y n f) (h : k (.tup (chL f n)) T) :
    sm_links_on [.val (rD x), .val (rD y), .val (rD (f 0)), .val (.int n)] T k := by
  rw [e_links_on, b_links_on, k_MOST_LINKS]
  walk_at "wkn"
  refine w_check_pair hx hy (by omega) ?_
  walk_at "wkn"
  refine w_check_round hz (by omega) ?_
  walk_at "wkn"
  refine w_btw (by omega) (by omega) ?_
  walk_at "wkn"
  refine w_check_apartR hx.toRw.s4' hy.toRw.s4' (by omega) ne ap ?_
  walk_at "wkn"
  refine w_check_linkR hx.toRw.s4' hy.toRw.s4' hz.toRw.s4' (by omega) lk ?_
  walk_at "wkn"
  refine links_loop hT n2 n1 c fun s5 s6 => ?_
  walk_at "wkn"
  exact h
theorem w_next_nb {T : Tk} {l : Nat} {x y z : R4} {k : KD} (hx : Rd l x) (hy : Rd l y) (hz : Rd l z) (hl : l ≤ 900) (ne : x ≠ y) (ap : 0 < wgt x y) (lk : lkB x y z = true) (h : sm_neighbours_of [.val (rD x), .val (rD y), .val (rD z)] T k) :
    sm_next_links [.val (rD x), .val (rD y), .val (rD z)] T k := by
  rw [e_next_links, b_next_links]
  walk_at "wkn"
  refine w_check_pair hx hy (by omega) ?_
  walk_at "wkn"
  refine w_check_round hz (by omega) ?_
  walk_at "wkn"
  refine w_check_apartR hx.toRw.s4' hy.toRw.s4' (by omega) ne ap ?_
  walk_at "wkn"
  refine w_check_linkR hx.toRw.s4' hy.toRw.s4' hz.toRw.s4' (by omega) lk ?_
  walk_at "wkn"
  exact h
theorem w_crossing_q {T : Tk} {n : Nat} {x y : R4} {k : KD} (hx : Rd n x) (hy : Rd n y) (hn : n ≤ 1000) (h : ∀ q, FrQ (4 * n + 9) q (((jn x y * jn x y : Int) : Rat) / ((bnd x * bnd y : Int) : Rat)) → k (.tup [.int q.1, .int q.2]) T) : sm_crossing [.val (rD x), .val (rD y)] T k := by
  rw [e_crossing, b_crossing]
  walk_at "wkn"
  refine w_check_round hx (by omega) ?_
  walk_at "wkn"
  refine w_check_round hy (by omega) ?_
  walk_at "wkn"
  have sx := bnd_sz' hx.toRw.s4'
  have sy := bnd_sz' hy.toRw.s4'
  have sj := jn_sz hx.toRw.s4' hy.toRw.s4'
  refine w_joint hx.toRw.s4' hy.toRw.s4' (by omega) ?_
  walk_at "wkn"
  refine w_joint hx.toRw.s4' hy.toRw.s4' (by omega) ?_
  walk_at "wkn"
  refine ⟨sj.mulOk sj (by omega) (by omega), ?_⟩
  refine w_bend hx.s1 hx.s2 hx.s3 hx.s4 (by omega) ?_
  walk_at "wkn"
  refine w_bend hy.s1 hy.s2 hy.s3 hy.s4 (by omega) ?_
  walk_at "wkn"
  refine ⟨sx.mulOk sy (by omega) (by omega), ?_⟩
  have bp := Int.mul_pos hx.bend hy.bend
  have bz := rne' bp
  refine w_fraction (n := 4 * n + 9) (u := ((jn x y * jn x y : Int) : Rat) / ((bnd x * bnd y : Int) : Rat)) bp ((sj.mul sj).mono (by omega)) ((sx.mul sy).mono (by omega)) (by omega) ?_ h
  generalize ((bnd x * bnd y : Int) : Rat) = B at *
  grind
/-- how many links the chains of two rounds have -/
def cntD (x y : R4) : D := if jn x y * jn x y * 1 = bnd x * bnd y * 49 then .int 3 else if jn x y * jn x y * 1 = bnd x * bnd y * 9 then .int 4 else if jn x y * jn x y * 9 = bnd x * bnd y * 25 then .int 6 else .non
theorem cntD_swap (x y : R4) : cntD y x = cntD x y := by unfold cntD; rw [jn_comm y x, Int.mul_comm (bnd y)]
theorem fr_iff {n : Nat} {q : Int × Int} {J B a d : Int} (h : FrQ n q ((J : Rat) / (B : Rat))) (b0 : 0 < B) (f : FrQ 10 (a, d) ((a : Rat) / (d : Rat))) : q = (a, d) ↔ J * d = B * a := by
  have bz := rne' b0
  have dz := rne' f.pos
  constructor
  · intro e
    subst e
    have e1 := h.e1
    simp only at e1
    refine cast_inj ?_
    push_cast
    generalize (B : Rat) = B' at *
    grind
  · intro e
    have e' : (J : Rat) * (d : Rat) = (B : Rat) * (a : Rat) := by exact_mod_cast congrArg (fun z : Int => (z : Rat)) e
    refine h.uniq' f ?_
    simp only at dz
    generalize (B : Rat) = B' at *
    grind
theorem fr_lit {a d : Int} (h : 0 < d) (g : gcdL 0 [a, d] = 1) (s1 : Sz 10 a) (s2 : Sz 10 d) : FrQ 10 (a, d) ((a : Rat) / (d : Rat)) := ⟨h, g, s1, s2, by
  have dz := rne' h
  simp only
  generalize (d : Rat) = d' at *
  grind⟩
theorem cnt_get {n : Nat} {x y : R4} {q : Int × Int} (h : FrQ n q (((jn x y * jn x y : Int) : Rat) / ((bnd x * bnd y : Int) : Rat))) (b0 : 0 < bnd x * bnd y) : getT (lkT t_COUNTS [q.1, q.2]) = cntD x y := by
  have f1 := fr_iff h b0 (fr_lit (a := 49) (d := 1) (by decide) (by decide) (by unfold Sz; decide) (by unfold Sz; decide))
  have f2 := fr_iff h b0 (fr_lit (a := 9) (d := 1) (by decide) (by decide) (by unfold Sz; decide) (by unfold Sz; decide))
  have f3 := fr_iff h b0 (fr_lit (a := 25) (d := 9) (by decide) (by decide) (by unfold Sz; decide) (by unfold Sz; decide))
  obtain ⟨q1, q2⟩ := q
  unfold cntD
  simp only [Prod.mk.injEq] at f1 f2 f3
  unfold lkT t_COUNTS
  simp only [List.find?_cons, List.find?_nil]
  simp only [List.cons.injEq, and_true]
  by_cases c1 : q1 = 49 ∧ q2 = 1
  · rw [if_pos (f1.mp c1), decide_eq_true ⟨c1.1.symm, c1.2.symm⟩]
    rfl
  · rw [if_neg (fun z => c1 (f1.mpr z)), decide_eq_false (fun z => c1 ⟨z.1.symm, z.2.symm⟩)]
    by_cases c2 : q1 = 9 ∧ q2 = 1
    · rw [if_pos (f2.mp c2), decide_eq_true ⟨c2.1.symm, c2.2.symm⟩]
      rfl
    · rw [if_neg (fun z => c2 (f2.mpr z)), decide_eq_false (fun z => c2 ⟨z.1.symm, z.2.symm⟩)]
      by_cases c3 : q1 = 25 ∧ q2 = 9
      · rw [if_pos (f3.mp c3), decide_eq_true ⟨c3.1.symm, c3.2.symm⟩]
        rfl
      · rw [if_neg (fun z => c3 (f3.mpr z)), decide_eq_false (fun z => c3 ⟨z.1.symm, z.2.symm⟩)]
        rfl
theorem w_chain_count {T : Tk} {n : Nat} {x y : R4} {k : KD} (hx : Rd n x) (hy : Rd n y) (hn : n ≤ 900) (ne : x ≠ y) (ap : 0 < wgt x y) (h : k (cntD x y) T) : sm_chain_count [.val (rD x), .val (rD y)] T k := by
  rw [e_chain_count, b_chain_count]
  walk_at "wkn"
  refine w_check_pair hx hy (by omega) ?_
  walk_at "wkn"
  refine w_check_apartR hx.toRw.s4' hy.toRw.s4' (by omega) ne ap ?_
  walk_at "wkn"
  refine w_crossing_q hx hy (by omega) fun q hq => ?_
  walk_at "wkn"
  rw [cnt_get hq (Int.mul_pos hx.bend hy.bend)]
  exact h
theorem row_ex {n : Nat} {r : R4} (b : 0 < bnd r) (s : S4 n r) : ∃ t g, g ≠ 0 ∧ r = mulR g t ∧ Rd n t := by
  obtain ⟨f1, f2, _⟩ := mr_form (P := fun _ => ∃ t g, g ≠ 0 ∧ r = mulR g t ∧ Rd n t) (a := r.1) (b := r.2.1) (c := r.2.2.1) (d := r.2.2.2) (Int.ne_of_gt b) s.s1 s.s2 s.s3 s.s4 fun t g g0 e ht => ⟨t, g, g0, e, ht.rd (by
    have e' : r = mulR g t := e
    rw [e', bnd_mulR] at b
    rcases Int.lt_or_le 0 (bnd t) with o | o
    · exact o
    · have := Int.mul_nonpos_of_nonneg_of_nonpos (mul_self_nonneg' g) o
      omega)⟩
  by_cases q : 0 < fnz (lowL [r.1, r.2.1, r.2.2.1, r.2.2.2])
  · exact f1 q
  · exact f2 q
theorem srR_two {D1 D2 : R4} : ∃ u v, srR [D1, D2] = [u, v] ∧ ((u = D1 ∧ v = D2) ∨ (u = D2 ∧ v = D1)) := by
  have p := srR_perm [D1, D2]
  have ln : (srR [D1, D2]).length = 2 := p.length_eq
  match h : srR [D1, D2], ln with
  | [u, v], _ =>
    rw [h] at p
    refine ⟨u, v, rfl, ?_⟩
    have hu : u ∈ [D1, D2] := p.mem_iff.mp (by simp)
    simp only [List.mem_cons, List.not_mem_nil, or_false] at hu
    rcases hu with rfl | rfl
    · have := (List.perm_cons u).mp p
      exact .inl ⟨rfl, by simpa using this⟩
    · have q : [u, v].Perm [u, D1] := p.trans (List.Perm.swap _ _ [])
      have := (List.perm_cons u).mp q
      exact .inr ⟨rfl, by simpa using this⟩
theorem nIJ_back (a b i j σ : Int) (hσ : σ = 1 ∨ σ = -1) : nI a b (nI a b i j σ) (nJ a b i j σ) (-σ) = 4 * (a * a * (a * a)) * (b * b * (b * b)) * i ∧ nJ a b (nI a b i j σ) (nJ a b i j σ) (-σ) = 4 * (a * a * (a * a)) * (b * b * (b * b)) * j := by
  rcases hσ with rfl | rfl <;> unfold nI nJ <;> constructor <;> grind
theorem nIJ_two (a b i j : Int) : nI a b i j 1 * nJ a b i j (-1) - nI a b i j (-1) * nJ a b i j 1 = 8 * a * (b * b * b) * (4 * (b * b * (b * b)) * (i * i) + a * a * (a * a - 4 * b * b) * (j * j)) := by
  unfold nI nJ
  grind
/-- links at unlike places are unlike -/
theorem ln_ne {F T T' i j i' j' s t : Int} (F0 : F ≠ 0) (s0 : s ≠ 0) (t0 : t ≠ 0) (c : i * j' - i' * j ≠ 0) : mulR s (lnR F T i j) ≠ mulR t (lnR F T' i' j') := fun e => by
  unfold mulR lnR at e
  simp only [Prod.mk.injEq] at e
  obtain ⟨e1, e2, _, e4⟩ := e
  have k1 : F * (s * (j * j) - t * (j' * j')) = 0 := by grind
  have k2 : (2 * F) * (s * (i * j) - t * (i' * j')) = 0 := by grind
  have k4 : F * (s * (i * i) - t * (i' * i')) = 0 := by grind
  have k1 := (Int.mul_eq_zero.mp k1).resolve_left F0
  have k2 := (Int.mul_eq_zero.mp k2).resolve_left (by omega)
  have k4 := (Int.mul_eq_zero.mp k4).resolve_left F0
  have q : s * ((i * j' - i' * j) * (i * j' - i' * j)) = 0 := by
    have : s * ((i * j' - i' * j) * (i * j' - i' * j)) = (s * (i * i)) * (j' * j') - 2 * (s * (i * j)) * (i' * j') + (s * (j * j)) * (i' * i') := by grind
    rw [this, show s * (i * i) = t * (i' * i') by omega, show s * (i * j) = t * (i' * j') by omega, show s * (j * j) = t * (j' * j') by omega]
    grind
  rcases Int.mul_eq_zero.mp q with q | q
  · exact s0 q
  · exact Int.mul_ne_zero c c q
theorem rb_cancel {f : Int} {g : G4} {A B : R4} {s t : Int} (hf : f = 0 ∨ f = 1) (d : dtG g ≠ 0) (h : mulR s (RB f g A) = mulR t (RB f g B)) : ∃ N : Int, N ≠ 0 ∧ mulR (s * N) A = mulR (t * N) B := by
  have k := congrArg (RB f (Bk f g)) h
  rw [rb_mul, rb_mul, rb_back' hf, rb_back' hf, mulR_mulR, mulR_mulR] at k
  exact ⟨(dtG g).nm, by have := Gi.nm_pos d; omega, k⟩
section
variable {f : Int} {g : G4} {x y z : R4} {α β γ m p i j : Int}
/-- what is due at a place -/
theorem due_ex {f : Int} {g : G4} {l s N : Nat} {F T I J : Int} (hg : N4 l g) (d : dtG g ≠ 0) (hs : S4 s (lnR F T I J)) (b : 0 < bnd (lnR F T I J)) (hN : 2 * l + s + 8 ≤ N) : ∃ D q, q ≠ 0 ∧ RB f g (lnR F T I J) = mulR q D ∧ Rd N D := by
  obtain ⟨D, q, q0, e, h⟩ := row_ex (r := RB f g (lnR F T I J)) (by rw [bnd_rb]; exact Int.mul_pos (Gi.nm_pos d) b) (sz_rb hg hs)
  exact ⟨D, q, q0, e, h.mono (by omega)⟩
theorem ab_pos {a b c R : Int} (c0 : 0 < c) (b0 : 0 < b) (d0 : 0 < p - 2 * m) (hp : 2 * b * p = c * (a * a)) (em : m = c * b) : 0 < a * a - 4 * b * b := by
  have e : c * (a * a - 4 * b * b) = 2 * b * (p - 2 * m) := by rw [em]; grind
  have q := Int.mul_pos (show 0 < 2 * b by omega) d0
  rw [← e] at q
  rcases Int.lt_or_le 0 (a * a - 4 * b * b) with o | o
  · exact o
  · have := Int.mul_nonpos_of_nonneg_of_nonpos (Int.le_of_lt c0) o
    omega
theorem sz_nIJ {a b σ : Int} {s : Nat} (sa : Sz 8 a) (sb : Sz 6 b) (si : Sz s i) (sj : Sz s j) (hσ : σ = 1 ∨ σ = -1) : Sz (s + 36) (nI a b i j σ) ∧ Sz (s + 36) (nJ a b i j σ) := by
  have s4 := sz_4
  have sσ : Sz 1 σ := by rcases hσ with rfl | rfl <;> (unfold Sz; decide)
  have s3 : Sz 21 (4 * b * b * b) := (((s4.mul sb).mul sb).mul sb).mono (by omega)
  unfold nI nJ
  constructor
  · have := sa.mul ((si.mul s3).add ((sσ.mul sj).mul (sa.mul ((sa.mul sa).sub ((s4.mul sb).mul sb)))))
    exact this.mono (by omega)
  · have := s3.mul ((sa.mul sj).sub ((sσ.mul sb).mul si))
    exact this.mono (by omega)
theorem two_at {l s : Nat} {a b c R : Int} (hg : N4 l g) (sf : Sz 16 (p * m)) (sm : Sz 6 m) (sp : Sz 10 (p - m)) (sa : Sz 8 a) (sb : Sz 6 b) (si : Sz s i) (sj : Sz s j) (h : Tri f g axR (P2R (p - m) m) (lnR (p * m) (tR m p i j) i j) x y z α β γ) (m0 : 0 < m) (d0 : 0 < p - 2 * m) (tp : ∀ i j : Int, (i ≠ 0 ∨ j ≠ 0) → 0 < tR m p i j)
    (ij : i ≠ 0 ∨ j ≠ 0) (hR : R * R = 2 * m * p) (a0 : 0 < a) (b0 : 0 < b) (c0 : 0 < c) (eR : R = c * a) (em : m = c * b) :
    ∃ D : Int → R4, (∀ σ, σ = 1 ∨ σ = -1 → Rd (2 * l + 2 * s + 110) (D σ) ∧ ∃ q : Int, q ≠ 0 ∧ RB f g (lnR (p * m) (tR m p (nI a b i j σ) (nJ a b i j σ)) (nI a b i j σ) (nJ a b i j σ)) = mulR q (D σ)) ∧ Two x y z (D 1) (D (-1)) ∧ D 1 ≠ D (-1) := by
  have one : ∀ σ : Int, σ = 1 ∨ σ = -1 → ∃ (D : R4) (q : Int), q ≠ 0 ∧ RB f g (lnR (p * m) (tR m p (nI a b i j σ) (nJ a b i j σ)) (nI a b i j σ) (nJ a b i j σ)) = mulR q D ∧ Rd (2 * l + 2 * s + 110) D := fun σ hσ => by
    have ne := nIJ_ne (i := i) (j := j) a0 b0 hσ ij
    obtain ⟨s1, s2⟩ := sz_nIJ (i := i) (j := j) sa sb si sj hσ
    have t := tp _ _ ne
    have st : Sz (2 * (s + 36) + 22) (tR m p (nI a b i j σ) (nJ a b i j σ)) := by
      unfold tR
      have q1 := ((s1.mul s1).mul sm).mul sm
      have q2 : Sz 21 ((p - 2 * m) * p) := by
        have e : (p - 2 * m) * p = (p - m) * (p - m) - m * m := by grind
        rw [e]
        exact ((sp.mul sp).sub (sm.mul sm)).mono (by omega)
      exact (q1.add ((s2.mul s2).mul q2)).mono (by omega)
    refine due_ex (s := 2 * (s + 36) + 23) hg h.dt ⟨?_, ?_, ?_, ?_⟩ (by rw [bnd_ln]; exact Int.mul_pos t t) (by omega)
    · have := (sf.mul s2).mul s2; exact this.mono (by omega)
    · have := (sz_0 (n := 0)).sub (((sz_2.mul s1).mul s2).mul sf); exact this.mono (by omega)
    · have := (sz_0 (n := 0)).sub st; exact this.mono (by omega)
    · have := (sf.mul s1).mul s1; exact this.mono (by omega)
  obtain ⟨D1, q1, q10, e1, h1⟩ := one 1 (.inl rfl)
  obtain ⟨D2, q2, q20, e2, h2⟩ := one (-1) (.inr rfl)
  refine ⟨fun σ => if σ = 1 then D1 else D2, fun σ hσ => ?_, ?_, ?_⟩
  · rcases hσ with rfl | rfl
    · exact ⟨h1, q1, q10, e1⟩
    · exact ⟨h2, q2, q20, e2⟩
  · exact nx_Two h m0 d0 (tp _ _ ij) hR a0 b0 c0 eR em h1 h2 ⟨q1, q10, e1⟩ ⟨q2, q20, e2⟩
  · show D1 ≠ D2
    intro e
    subst e
    have k : mulR q2 (RB f g (lnR (p * m) (tR m p (nI a b i j 1) (nJ a b i j 1)) (nI a b i j 1) (nJ a b i j 1))) = mulR q1 (RB f g (lnR (p * m) (tR m p (nI a b i j (-1)) (nJ a b i j (-1))) (nI a b i j (-1)) (nJ a b i j (-1)))) := by
      rw [e1, e2, mulR_mulR, mulR_mulR, Int.mul_comm]
    obtain ⟨N, N0, k⟩ := rb_cancel h.hf h.dt k
    refine ln_ne (Int.mul_ne_zero (show p ≠ 0 by omega) (show m ≠ 0 by omega)) (Int.mul_ne_zero q20 N0) (Int.mul_ne_zero q10 N0) ?_ k
    rw [nIJ_two]
    have ap := ab_pos (p := p) (m := m) (R := R) c0 b0 d0 (hp_of c0 hR eR em) em
    have bb := Int.mul_pos (Int.mul_pos b0 b0) b0
    have aa := Int.mul_pos a0 a0
    have b4 := Int.mul_pos (Int.mul_pos b0 b0) (Int.mul_pos b0 b0)
    have i2 := mul_self_nonneg' i
    have j2 := mul_self_nonneg' j
    have x1 := Int.mul_nonneg (show 0 ≤ 4 * (b * b * (b * b)) by omega) i2
    have x2 := Int.mul_nonneg (Int.le_of_lt (Int.mul_pos aa ap)) j2
    have x3 : 0 < 4 * (b * b * (b * b)) * (i * i) + a * a * (a * a - 4 * b * b) * (j * j) := by
      rcases ij with z | z
      · have := Int.mul_pos (show 0 < 4 * (b * b * (b * b)) by omega) (imul_self_pos z)
        omega
      · have := Int.mul_pos (Int.mul_pos aa ap) (imul_self_pos z)
        omega
    have := Int.mul_pos (Int.mul_pos (show 0 < 8 * a by omega) bb) x3
    omega
end

section
variable {f : Int} {g : G4} {x y z : R4} {α β γ m p i j : Int}
end
/-- three links in a ring -/
structure Ring (x y A B C : R4) : Prop where
  ab : A ≠ B
  ac : A ≠ C
  bc : B ≠ C
  na : ∃ p q, NbIs x y A (some [p, q]) ∧ ((p = B ∧ q = C) ∨ (p = C ∧ q = B))
  nb : ∃ p q, NbIs x y B (some [p, q]) ∧ ((p = A ∧ q = C) ∨ (p = C ∧ q = A))
  nc : ∃ p q, NbIs x y C (some [p, q]) ∧ ((p = A ∧ q = B) ∨ (p = B ∧ q = A))
theorem Ring.sw {x y A B C : R4} (h : Ring x y A B C) : Ring x y A C B := ⟨h.ac, h.ab, Ne.symm h.bc, by obtain ⟨p, q, a, b⟩ := h.na; exact ⟨p, q, a, b.symm⟩, h.nc, h.nb⟩
def rgF (A B C : R4) (k : Nat) : R4 := if k % 3 = 0 then A else if k % 3 = 1 then B else C
theorem Ring.chn {x y A B C : R4} (h : Ring x y A B C) (e : NbIs x y A (some [B, C])) (n : Nat) : Chn x y n (rgF A B C) := fun j _ => by
  obtain h0 | h1 | h2 : j % 3 = 0 ∨ j % 3 = 1 ∨ j % 3 = 2 := by omega
  · refine ⟨B, C, by rw [show rgF A B C j = A by unfold rgF; rw [if_pos h0]]; exact e, fun _ => rfl, fun j0 => .inl ?_⟩
    have e1 : rgF A B C (j - 1) = C := by unfold rgF; rw [if_neg (by omega), if_neg (by omega)]
    have e2 : rgF A B C (j + 1) = B := by unfold rgF; rw [if_neg (by omega), if_pos (by omega)]
    rw [e1, e2]
    exact ⟨h.bc, rfl⟩
  · obtain ⟨p, q, nb, c⟩ := h.nb
    refine ⟨p, q, by rw [show rgF A B C j = B by unfold rgF; rw [if_neg (by omega), if_pos h1]]; exact nb, fun z => by omega, fun j0 => ?_⟩
    have e1 : rgF A B C (j - 1) = A := by unfold rgF; rw [if_pos (by omega)]
    have e2 : rgF A B C (j + 1) = C := by unfold rgF; rw [if_neg (by omega), if_neg (by omega)]
    rw [e1, e2]
    rcases c with ⟨rfl, rfl⟩ | ⟨rfl, rfl⟩
    · exact .inr ⟨rfl, Ne.symm h.ac, rfl⟩
    · exact .inl ⟨Ne.symm h.ac, rfl⟩
  · obtain ⟨p, q, nb, c⟩ := h.nc
    refine ⟨p, q, by rw [show rgF A B C j = C by unfold rgF; rw [if_neg (by omega), if_neg (by omega)]]; exact nb, fun z => by omega, fun j0 => ?_⟩
    have e1 : rgF A B C (j - 1) = B := by unfold rgF; rw [if_neg (by omega), if_pos (by omega)]
    have e2 : rgF A B C (j + 1) = A := by unfold rgF; rw [if_pos (by omega)]
    rw [e1, e2]
    rcases c with ⟨rfl, rfl⟩ | ⟨rfl, rfl⟩
    · exact .inl ⟨h.ab, rfl⟩
    · exact .inr ⟨rfl, h.ab, rfl⟩
section
variable {f : Int} {g : G4} {x y z : R4} {α β γ m p i j : Int}
end

theorem sz_dt3' {i j l : Nat} {a b c d e f g h k : Int} (s1 : Sz i a) (s2 : Sz i b) (s3 : Sz i c) (s4 : Sz j d) (s5 : Sz j e) (s6 : Sz j f) (s7 : Sz l g) (s8 : Sz l h) (s9 : Sz l k) : Sz (i + j + l + 3) (dt3 a b c d e f g h k) := by
  unfold dt3 mnr
  exact (((s1.mul ((s5.mul s9).sub (s6.mul s8))).sub (s2.mul ((s4.mul s9).sub (s6.mul s7)))).add (s3.mul ((s4.mul s8).sub (s5.mul s7)))).mono (by omega)
theorem sz_cr4' {i j l : Nat} {x y z : R4} (a : S4 i x) (b : S4 j y) (c : S4 l z) : S4 (i + j + l + 3) (cr4 x y z) :=
  ⟨sz_dt3' a.s2 a.s3 a.s4 b.s2 b.s3 b.s4 c.s2 c.s3 c.s4, (sz_dt3' a.s1 a.s3 a.s4 b.s1 b.s3 b.s4 c.s1 c.s3 c.s4).neg, sz_dt3' a.s1 a.s2 a.s4 b.s1 b.s2 b.s4 c.s1 c.s2 c.s4, (sz_dt3' a.s1 a.s2 a.s3 b.s1 b.s2 b.s3 c.s1 c.s2 c.s3).neg⟩
theorem jn_sz2 {n l : Nat} {x y : R4} (hx : S4 l x) (hy : S4 n y) : Sz (n + l + 4) (jn x y) := by
  have q2 := (hx.s2.mul hy.s2).mono (show l + n ≤ n + l by omega)
  have q3 := (hx.s3.mul hy.s3).mono (show l + n ≤ n + l by omega)
  have q1 := (hx.s1.mul hy.s4).mono (show l + n ≤ n + l by omega)
  have q4 := hy.s1.mul hx.s4
  have a1 : Sz (n + l + 3) (x.2.1 * y.2.1 + x.2.2.1 * y.2.2.1) := (q2.add q3).mono (by omega)
  have a2 : Sz (n + l + 3) (2 * (x.1 * y.2.2.2 + y.1 * x.2.2.2)) := ((show Sz 2 (2 : Int) from sz_2).mul (q1.add q4)).mono (by omega)
  exact (a1.sub a2).mono (by omega)
theorem w_neighbours_of2 {T : Tk} {n l : Nat} {x y z : R4} {k : KD} (hx : S4 n x) (hy : S4 n y) (hz : S4 l z) (hn : n ≤ 100) (hnl : n ≤ l) (hl : l ≤ 1200) (p0 : 0 < sqn x y z)
    (h1 : ∀ r, 0 < r → r * r = sqn x y z → 0 < bnd (nbr x y z (-r)) ∧ 0 < bnd (nbr x y z r) ∧ ∀ u v g g', g ≠ 0 → g' ≠ 0 → nbr x y z (-r) = mulR g u → nbr x y z r = mulR g' v → Rd 9000 u → Rd 9000 v → k (.tup ((srR [u, v]).map rD)) T) (h2 : (∀ s, s * s ≠ sqn x y z) → k .non T) : sm_neighbours_of [.val (rD x), .val (rD y), .val (rD z)] T k := by
  have hx4 := hx
  have hy4 := hy
  have s12 := jn_sz hx hy
  have s31 := jn_sz2 hz hx
  have s32 := jn_sz2 hz hy
  have b1 : Sz (2 * n + 4) (bnd x) := bnd_sz hx.s1 hx.s2 hx.s3 hx.s4
  have b2 : Sz (2 * n + 4) (bnd y) := bnd_sz hy.s1 hy.s2 hy.s3 hy.s4
  have b3 : Sz (2 * l + 4) (bnd z) := bnd_sz hz.s1 hz.s2 hz.s3 hz.s4
  have ok : ∀ {a b : Int} {p q : Nat}, p ≤ 9000 → q ≤ 9000 → Sz p a → Sz q b → MulOk a b := fun hp hq ha hb => ha.mulOk hb (by omega) (by omega)
  have sc : ∀ {p q : Nat} {a b c d : Int}, Sz p a → Sz q b → Sz p c → Sz q d → Sz (p + q + 1) (a * b - c * d) := fun ha hb hc hd => ((ha.mul hb).sub (hc.mul hd)).mono (by omega)
  have sw : Sz (4 * n + 9) (wgt x y) := (sc s12 s12 b1 b2).mono (by omega)
  have sq1 := sc s32 s12 s31 b2
  have sq2 := sc s31 s12 s32 b1
  have si : S4 (4 * n + l + 12) (inn x y z) := s4_mix2 sq1 hx sq2 hy (by omega) (by omega)
  have s1n : Sz 1 (-1 : Int) := by unfold Sz; decide
  have so : S4 (4 * n + l + 14) (outR x y z) := s4_mix2 sw hz s1n si (by omega) (by omega)
  have bo : Sz (8 * n + 2 * l + 32) (bnd (outR x y z)) := (show Sz (2 * (4 * n + l + 14) + 4) _ from bnd_sz so.s1 so.s2 so.s3 so.s4).mono (by omega)
  have bi : Sz (8 * n + 2 * l + 32) (bnd (inn x y z)) := (show Sz (2 * (4 * n + l + 12) + 4) _ from bnd_sz si.s1 si.s2 si.s3 si.s4).mono (by omega)
  have bm : Sz (8 * n + 2 * l + 36) (-2 * bnd (inn x y z) - bnd (outR x y z)) := (((show Sz 2 (-2 : Int) from sz_2.neg).mul bi).sub (bo.mono (show 8 * n + 2 * l + 32 ≤ 2 + (8 * n + 2 * l + 32) by omega))).mono (by omega)
  have sm : S4 (12 * n + 3 * l + 52) (midR x y z) := s4_mix2 bo si bm so (by omega) (by omega)
  rw [e_neighbours_of, b_neighbours_of]
  walk_at "wk"
  refine w_bendR hx (by omega) ?_
  walk_at "wk"
  refine w_bendR hy (by omega) ?_
  walk_at "wk"
  refine w_jointR hx hy (by omega) ?_
  walk_at "wk"
  refine w_jointR hz (hx4.mono hnl) (by omega) ?_
  walk_at "wk"
  refine w_jointR hz (hy4.mono hnl) (by omega) ?_
  walk_at "wk"
  refine ⟨ok (by omega) (by omega) s12 s12, ok (by omega) (by omega) b1 b2, ok (by omega) (by omega) s32 s12, ok (by omega) (by omega) s31 b2, ok (by omega) (by omega) s31 s12, ok (by omega) (by omega) s32 b1, ?_⟩
  refine w_mixedR sq1 hx sq2 hy (by omega) (by omega) ?_
  rw [show mixR2 (jn z y * jn x y - jn z x * bnd y) x (jn z x * jn x y - jn z y * bnd x) y = inn x y z from rfl, show jn x y * jn x y - bnd x * bnd y = wgt x y from rfl]
  walk_at "wk"
  refine w_mixedR (m := 4 * n + 9) (n := 4 * n + l + 12) sw (hz.mono (by omega)) (s1n.mono (by omega)) si (by omega) (by omega) ?_
  rw [show mixR2 (wgt x y) z (-1) (inn x y z) = outR x y z from rfl]
  walk_at "wk"
  refine w_bendR so (by omega) ?_
  walk_at "wk"
  refine w_bendR si (by omega) ?_
  walk_at "wk"
  refine ⟨(show Sz 2 (-2 : Int) from sz_2.neg).mulOk bi (by omega) (by omega), ?_⟩
  rw [show -(2 * bnd (inn x y z)) = -2 * bnd (inn x y z) from (Int.neg_mul 2 _).symm]
  refine w_mixedR (m := 8 * n + 2 * l + 36) (n := 4 * n + l + 14) (bo.mono (by omega)) (si.mono (by omega)) bm so (by omega) (by omega) ?_
  rw [show mixR2 (bnd (outR x y z)) (inn x y z) (-2 * bnd (inn x y z) - bnd (outR x y z)) (outR x y z) = midR x y z from rfl]
  walk_at "wk"
  refine w_weights_forR hx (by omega) ?_
  walk_at "wk"
  refine w_weights_forR hy (by omega) ?_
  walk_at "wk"
  refine w_weights_forR hz (by omega) ?_
  walk_at "wk"
  refine w_row_across ((wR_s4 hx).mono (show n + 2 ≤ l + 2 by omega)) ((wR_s4 hy).mono (show n + 2 ≤ l + 2 by omega)) (wR_s4 hz) (by omega) fun a ea => ?_
  have ea : a = acr x y z := ea
  subst ea
  rw [show D.tup [.int (acr x y z).1, .int (acr x y z).2.1, .int (acr x y z).2.2.1, .int (acr x y z).2.2.2] = rD (acr x y z) from rfl]
  have sa : S4 (2 * n + l + 9) (acr x y z) := (show S4 (n + 2 + (n + 2) + (l + 2) + 3) _ from sz_cr4' (wR_s4 hx) (wR_s4 hy) (wR_s4 hz)).mono (by omega)
  have ba : Sz (4 * n + 2 * l + 22) (bnd (acr x y z)) := (show Sz (2 * (2 * n + l + 9) + 4) _ from bnd_sz sa.s1 sa.s2 sa.s3 sa.s4).mono (by omega)
  have bd : Sz (24 * n + 6 * l + 108) (bnd (midR x y z)) := (show Sz (2 * (12 * n + 3 * l + 52) + 4) _ from bnd_sz sm.s1 sm.s2 sm.s3 sm.s4).mono (by omega)
  walk_at "wk"
  have q1 := sw.mul bo
  have q2 := q1.mul sw
  have q3 := q2.mul bo
  have q4 := q3.mul b3
  have q5 : Sz (24 * n + 6 * l + 109) (wgt x y * bnd (outR x y z) * wgt x y * bnd (outR x y z) * bnd z - bnd (midR x y z)) := ((q4.mono (show _ ≤ 24 * n + 6 * l + 108 by omega)).sub bd).mono (by omega)
  have q6 : Sz (28 * n + 8 * l + 132) (sqn x y z) := (q5.mul ba).mono (by omega)
  refine ⟨sw.mulOk bo (by omega) (by omega), q1.mulOk sw (by omega) (by omega), q2.mulOk bo (by omega) (by omega), ?_⟩
  refine w_bendR hz (by omega) ?_
  walk_at "wk"
  refine ⟨q3.mulOk b3 (by omega) (by omega), ?_⟩
  refine w_bendR sm (by omega) ?_
  walk_at "wk"
  refine w_bendR sa (by omega) ?_
  walk_at "wk"
  refine ⟨q5.mulOk ba (by omega) (by omega), ?_⟩
  rw [show (wgt x y * bnd (outR x y z) * wgt x y * bnd (outR x y z) * bnd z - bnd (midR x y z)) * bnd (acr x y z) = sqn x y z from rfl]
  have mx : iMax 0 (sqn x y z) = sqn x y z := by
    simp only [iMax]
    split <;> omega
  rw [mx]
  have sq : Sz (14 * n + 4 * l + 66) (isq (sqn x y z)) := isq_szH (Int.le_of_lt p0) (q6.mono (by omega))
  refine ⟨⟨Int.le_of_lt p0, by unfold Sz at q6; exact Nat.lt_of_lt_of_le q6 (Nat.pow_le_pow_right (by decide) (by omega))⟩, sq.mulOk sq (by omega) (by omega), ?_⟩
  refine isq_root p0 _ (fun r r0 er e => ?_) (fun nr nq => ?_)
  rotate_left
  · refine iteB_n (decide_eq_false nq) ?_
    walk_at "wk"
    exact h2 nr
  rw [e, er]
  refine iteB_p (decide_eq_true rfl) ?_
  obtain ⟨pM, pP, fin⟩ := h1 r r0 er
  have sr : Sz (14 * n + 4 * l + 66) r := by rw [← e]; exact sq
  have zM : S4 (16 * n + 5 * l + 80) (nbr x y z (-r)) := s4_mix2 ba sm sr.neg sa (by omega) (by omega)
  have zP : S4 (16 * n + 5 * l + 80) (nbr x y z r) := s4_mix2 ba sm sr sa (by omega) (by omega)
  have fa : ∀ (X : R4) (T : Tk) (K : KD), 0 < bnd X → S4 (16 * n + 5 * l + 80) X → (∀ t g, g ≠ 0 → X = mulR g t → Rd 9000 t → K (rD t) T) → sm_first_above [.val (rD X)] T K := fun X T K hb hs hk =>
    w_first_aboveM (n := 9000) (a := X.1) (b := X.2.1) (c := X.2.2.1) (d := X.2.2.2) (Int.ne_of_gt hb) (hs.s1.mono (by omega)) (hs.s2.mono (by omega)) (hs.s3.mono (by omega)) (hs.s4.mono (by omega)) (by omega) fun t g g0 e ht => hk t g g0 e (ht.rd (by
      have e' : X = mulR g t := e
      rw [e', bnd_mulR] at hb
      rcases Int.lt_or_le 0 (bnd t) with o | o
      · exact o
      · have := Int.mul_nonpos_of_nonneg_of_nonpos (mul_self_nonneg' g) o
        omega))
  walk_at "wk"
  refine w_bendR sa (by omega) ?_
  walk_at "wk"
  refine ⟨(show Sz 2 (-1 : Int) from (sz_1 (n := 2) (by decide)).neg).mulOk sr (by omega) (by omega), ?_⟩
  refine w_mixedR (m := 14 * n + 4 * l + 66) (n := 12 * n + 3 * l + 52) (ba.mono (by omega)) sm sr.neg (sa.mono (by omega)) (by omega) (by omega) ?_
  rw [show mixR2 (bnd (acr x y z)) (midR x y z) (-r) (acr x y z) = nbr x y z (-r) from rfl]
  walk_at "wk"
  refine w_bendR sa (by omega) ?_
  walk_at "wk"
  refine ⟨(sz_1 (n := 2) (by decide)).mulOk sr (by omega) (by omega), ?_⟩
  refine w_mixedR (m := 14 * n + 4 * l + 66) (n := 12 * n + 3 * l + 52) (ba.mono (by omega)) sm sr (sa.mono (by omega)) (by omega) (by omega) ?_
  rw [show mixR2 (bnd (acr x y z)) (midR x y z) r (acr x y z) = nbr x y z r from rfl]
  walk_at "wk"
  refine fa _ _ _ pM zM fun u g g0 e1 hu => ?_
  walk_at "wk"
  refine fa _ _ _ pP zP fun v g' g0' e2 hv => ?_
  have F := fin u v g g' g0 g0' e1 e2 hu hv
  rw [← srR_map] at F
  walk_at "wk"
  exact ⟨(tups_i4 [u, v]).mpr (by simp), F⟩

/-- the steps of an endless chain, uncut -/
def stK (a b σ : Int) (v : Int × Int) : Nat → Int × Int
  | 0 => v
  | k + 1 => (nI a b (stK a b σ v k).1 (stK a b σ v k).2 σ, nJ a b (stK a b σ v k).1 (stK a b σ v k).2 σ)
def trS (a b : Int) : Int := 8 * a * (b * b * b)
def dtS (a b : Int) : Int := 4 * (a * a * (a * a)) * (b * b * (b * b))
def uS (a b : Int) : Nat → Int
  | 0 => 0
  | 1 => 1
  | k + 2 => trS a b * uS a b (k + 1) - dtS a b * uS a b k
theorem nI_ch {a b σ : Int} (i j : Int) (hσ : σ * σ = 1) : nI a b (nI a b i j σ) (nJ a b i j σ) σ = trS a b * nI a b i j σ - dtS a b * i ∧ nJ a b (nI a b i j σ) (nJ a b i j σ) σ = trS a b * nJ a b i j σ - dtS a b * j := by
  unfold nI nJ trS dtS
  constructor <;> grind
theorem stK_2 {a b σ : Int} (v : Int × Int) (hσ : σ * σ = 1) (k : Nat) : (stK a b σ v (k + 2)).1 = trS a b * (stK a b σ v (k + 1)).1 - dtS a b * (stK a b σ v k).1 ∧ (stK a b σ v (k + 2)).2 = trS a b * (stK a b σ v (k + 1)).2 - dtS a b * (stK a b σ v k).2 := nI_ch _ _ hσ
theorem stK_cross {a b σ : Int} (i j : Int) (hσ : σ * σ = 1) : ∀ k, (i * (stK a b σ (i, j) k).2 - j * (stK a b σ (i, j) k).1 = uS a b k * (i * nJ a b i j σ - j * nI a b i j σ)) ∧ (i * (stK a b σ (i, j) (k + 1)).2 - j * (stK a b σ (i, j) (k + 1)).1 = uS a b (k + 1) * (i * nJ a b i j σ - j * nI a b i j σ))
  | 0 => by
    constructor
    · show i * j - j * i = 0 * _
      grind
    · show i * nJ a b i j σ - j * nI a b i j σ = 1 * _
      grind
  | k + 1 => by
    obtain ⟨h0, h1⟩ := stK_cross i j hσ k
    refine ⟨h1, ?_⟩
    obtain ⟨e1, e2⟩ := stK_2 (a := a) (b := b) (σ := σ) (i, j) hσ k
    rw [show k + 1 + 1 = k + 2 from rfl, e1, e2]
    show _ = (trS a b * uS a b (k + 1) - dtS a b * uS a b k) * _
    grind
theorem uS_all : ∀ b ∈ [1, 2, 3, 4], ∀ a ∈ [1, 2, 3, 4, 5, 6, 7, 8, 9, 10, 11, 12, 13, 14, 15, 16, 17], 2 * b < a → a ≠ 4 * b → ∀ k ∈ [1, 2, 3, 4, 5, 6, 7, 8], uS a b k ≠ 0 := by decide +kernel
/-- an endless chain does not come back so soon -/
theorem uS_ne {a b : Int} (b0 : 1 ≤ b) (b1 : b ≤ 4) (ab : 2 * b < a) (a1 : a ≤ 17) (n4 : a ≠ 4 * b) {k : Nat} (k0 : 1 ≤ k) (k1 : k ≤ 8) : uS a b k ≠ 0 :=
  uS_all b (by simp only [List.mem_cons, List.not_mem_nil, or_false]; omega) a (by simp only [List.mem_cons, List.not_mem_nil, or_false]; omega) ab n4 k (by simp only [List.mem_cons, List.not_mem_nil, or_false]; omega)
theorem w__law_next2 {T : Tk} {s : Nat} {n m a b i j σ : Int} {k : KD} (sa : Sz 5 a) (sb : Sz 3 b) (a0 : 0 < a) (b0 : 0 < b) (hi : Sz s i) (hj : Sz s j) (hs : s ≤ 500) (ne : i ≠ 0 ∨ j ≠ 0) (hσ : σ = 1 ∨ σ = -1) (h : ∀ g c d, 0 < g → nI a b i j σ = g * c → nJ a b i j σ = g * d → Sz (s + 24) c → Sz (s + 24) d → (c ≠ 0 ∨ d ≠ 0) → k (.tup [.int c, .int d]) T) : sm__law_next [.val (wlD n m a b), .val (.tup [.int i, .int j]), .val (.int σ)] T k := by
  have sσ : Sz 1 σ := by rcases hσ with rfl | rfl <;> (unfold Sz; decide)
  have s4 : Sz 3 (4 : Int) := sz_nat 4 (by decide) (by decide) (by decide)
  have d1 := s4.mul sb
  have d2 := d1.mul sb
  have d3 := d2.mul sb
  have t1 := sa.mul sa
  have t2 := t1.sub d2
  have t3 := sa.mul t2
  have fm : ∀ {c d : Nat} {x y : Int}, Sz c x → Sz d y → c ≤ 1000 → d ≤ 1000 → MulOk x y := fun h1 h2 l1 l2 => h1.mulOk h2 (by omega) (by omega)
  have p := nIJ_ne a0 b0 hσ ne
  have x1 := (hi.mul d3).add ((sσ.mul hj).mul t3)
  have x2 := sa.mul x1
  have y1 := (sa.mul hj).sub ((sσ.mul sb).mul hi)
  have y2 := d3.mul y1
  rw [e__law_next, b__law_next, show wlD n m a b = .lst [.int n, .int m, .int a, .int b] from rfl]
  walk_at "wk"
  refine ⟨fm sa sa (by omega) (by omega), fm s4 sb (by omega) (by omega), fm d1 sb (by omega) (by omega), fm sa t2 (by omega) (by omega), fm s4 sb (by omega) (by omega), fm d1 sb (by omega) (by omega), fm d2 sb (by omega) (by omega), fm hi d3 (by omega) (by omega), fm sσ hj (by omega) (by omega), fm (sσ.mul hj) t3 (by omega) (by omega), fm sa x1 (by omega) (by omega), fm sa hj (by omega) (by omega), fm sσ sb (by omega) (by omega), fm (sσ.mul sb) hi (by omega) (by omega), fm d3 y1 (by omega) (by omega), ?_⟩
  refine w__law_cut2 (n := s + 24) p (x2.mono (by omega)) (y2.mono (by omega)) (by omega) fun g c d g0 e1 e2 q1 q2 => h g c d g0 e1 e2 q1 q2 ?_
  by_cases z : c = 0
  · refine .inr fun y => ?_
    rw [z, Int.mul_zero] at e1
    rw [y, Int.mul_zero] at e2
    exact p.elim (fun q => q e1) (fun q => q e2)
  · exact .inl z

theorem nb_two2 {n l : Nat} {x y z D1 D2 : R4} (hx : S4 n x) (hy : S4 n y) (hz : S4 l z) (hn : n ≤ 100) (hnl : n ≤ l) (hl : l ≤ 1200) (h : Two x y z D1 D2) : NbIs x y z (some (srR [D1, D2])) := fun T k hk =>
  w_neighbours_of2 hx hy hz hn hnl hl h.pos (fun r r0 er => by
    obtain ⟨h3, h4, h5⟩ := h.two r r0 er
    exact ⟨h3, h4, fun u v q q' z1 z2 g1 g2 hu hv => by rw [h5 u v q q' z1 z2 g1 g2 hu hv]; exact hk⟩) fun nr => by
    obtain ⟨s, es⟩ := h.sq
    exact absurd es (nr s)
/-- an endless chain: each link stands between the one before and the one behind -/
structure EndC (x y : R4) (N : Nat) (f : Nat → R4) : Prop where
  rd : ∀ k, k ≤ N → Rd 1200 (f k)
  nb : ∀ k, 0 < k → k < N → ∃ p q, NbIs x y (f k) (some [p, q]) ∧ srR [f (k - 1), f (k + 1)] = [p, q] ∧ f (k - 1) ≠ f (k + 1)
  n0 : ∃ v, NbIs x y (f 0) (some [f 1, v])
theorem EndC.chn {x y : R4} {N n : Nat} {f : Nat → R4} (h : EndC x y N f) (hn : n ≤ N + 1) : Chn x y n f := fun j hj => by
  rcases Nat.eq_zero_or_pos j with j0 | j0
  · subst j0
    obtain ⟨v, nb⟩ := h.n0
    exact ⟨f 1, v, nb, fun _ => rfl, fun z => absurd z (by decide)⟩
  · obtain ⟨p, q, nb, e, ne⟩ := h.nb j j0 (by omega)
    refine ⟨p, q, nb, fun z => by omega, fun _ => ?_⟩
    obtain ⟨u, v, e', uv⟩ := srR_two (D1 := f (j - 1)) (D2 := f (j + 1))
    rw [e] at e'
    simp only [List.cons.injEq, and_true] at e'
    obtain ⟨rfl, rfl⟩ := e'
    rcases uv with ⟨a1, a2⟩ | ⟨a1, a2⟩
    · exact .inr ⟨a1, by rw [a2]; exact Ne.symm ne, a2.symm⟩
    · exact .inl ⟨by rw [a1]; exact Ne.symm ne, a1.symm⟩

theorem nIJ_lin (a b h c d τ : Int) : nI a b (h * c) (h * d) τ = h * nI a b c d τ ∧ nJ a b (h * c) (h * d) τ = h * nJ a b c d τ := by
  unfold nI nJ
  constructor <;> grind
/-- links at places along one another are one -/
theorem same_row {f0 : Int} {g : G4} {m p I J i j u v q γ : Int} {n l : Nat} {A B : R4} (u0 : u ≠ 0) (v0 : v ≠ 0) (e1 : u * I = v * i) (e2 : u * J = v * j) (q0 : q ≠ 0) (γ0 : γ ≠ 0) (hA : Rd n A) (hB : Rd l B) (eA : RB f0 g (lnR (p * m) (tR m p I J) I J) = mulR q A) (eB : RB f0 g (lnR (p * m) (tR m p i j) i j) = mulR γ B) : A = B := by
  have h1 := ln_hom2 m p I J u
  have h2 := ln_hom2 m p i j v
  rw [e1, e2, h2] at h1
  have h3 := congrArg (RB f0 g) h1
  rw [rb_mul, rb_mul, eA, eB, mulR_mulR, mulR_mulR] at h3
  exact rd_mulR hA hB (Int.mul_ne_zero (Int.mul_ne_zero u0 u0) q0) (Int.mul_ne_zero (Int.mul_ne_zero v0 v0) γ0) h3.symm
theorem endC_at {f0 : Int} {g : G4} {x y : R4} {α β m p a b c R σ : Int} {l s N : Nat} {P : Nat → Int × Int} {F : Nat → R4} {γ : Nat → Int} (hf : f0 = 0 ∨ f0 = 1) (hg : N4 l g) (dg : dtG g ≠ 0) (α0 : α ≠ 0) (β0 : β ≠ 0) (ex : RB f0 g axR = mulR α x) (ey : RB f0 g (P2R (p - m) m) = mulR β y)
    (sf : Sz 16 (p * m)) (sm : Sz 6 m) (sp : Sz 10 (p - m)) (sa : Sz 8 a) (sb : Sz 6 b) (m0 : 0 < m) (d0 : 0 < p - 2 * m) (tp : ∀ i j : Int, (i ≠ 0 ∨ j ≠ 0) → 0 < tR m p i j) (hR : R * R = 2 * m * p) (a0 : 0 < a) (b0 : 0 < b) (c0 : 0 < c) (eR : R = c * a) (em : m = c * b) (hσ : σ = 1 ∨ σ = -1)
    (hx : Rd 100 x) (hy : Rd 100 y) (ne : ∀ k, k ≤ N → (P k).1 ≠ 0 ∨ (P k).2 ≠ 0) (sz : ∀ k, k ≤ N → Sz s (P k).1 ∧ Sz s (P k).2) (st : ∀ k, k < N → ∃ h, 0 < h ∧ nI a b (P k).1 (P k).2 σ = h * (P (k + 1)).1 ∧ nJ a b (P k).1 (P k).2 σ = h * (P (k + 1)).2)
    (rows : ∀ k, k ≤ N → γ k ≠ 0 ∧ RB f0 g (lnR (p * m) (tR m p (P k).1 (P k).2) (P k).1 (P k).2) = mulR (γ k) (F k) ∧ Rd 1200 (F k)) (N1 : 1 ≤ N)
    (mn : ∀ (D1 D2 : R4) (q1 q2 : Int) (n : Nat), q1 ≠ 0 → q2 ≠ 0 → RB f0 g (lnR (p * m) (tR m p (nI a b (P 0).1 (P 0).2 1) (nJ a b (P 0).1 (P 0).2 1)) (nI a b (P 0).1 (P 0).2 1) (nJ a b (P 0).1 (P 0).2 1)) = mulR q1 D1 → RB f0 g (lnR (p * m) (tR m p (nI a b (P 0).1 (P 0).2 (-1)) (nJ a b (P 0).1 (P 0).2 (-1))) (nI a b (P 0).1 (P 0).2 (-1)) (nJ a b (P 0).1 (P 0).2 (-1))) = mulR q2 D2 → Rd n D1 → Rd n D2 → ∃ v, srR [D1, D2] = [F 1, v]) :
    EndC x y N F ∧ EndC y x N F := by
  have two : ∀ k, k ≤ N → ∃ D : Int → R4, (∀ τ, τ = 1 ∨ τ = -1 → Rd (2 * l + 2 * s + 110) (D τ) ∧ ∃ q : Int, q ≠ 0 ∧ RB f0 g (lnR (p * m) (tR m p (nI a b (P k).1 (P k).2 τ) (nJ a b (P k).1 (P k).2 τ)) (nI a b (P k).1 (P k).2 τ) (nJ a b (P k).1 (P k).2 τ)) = mulR q (D τ)) ∧ Two x y (F k) (D 1) (D (-1)) ∧ D 1 ≠ D (-1) := fun k hk => by
    obtain ⟨γ0, eg, hr⟩ := rows k hk
    obtain ⟨s1, s2⟩ := sz k hk
    have t : Tri f0 g axR (P2R (p - m) m) (lnR (p * m) (tR m p (P k).1 (P k).2) (P k).1 (P k).2) x y (F k) α β (γ k) := ⟨hf, dg, α0, β0, γ0, ex, ey, eg⟩
    exact two_at hg sf sm sp sa sb s1 s2 t m0 d0 tp (ne k hk) hR a0 b0 c0 eR em
  have sx := hx.toRw.s4'
  have sy := hy.toRw.s4'
  have nbs : ∀ {k : Nat} {A B : R4}, k ≤ N → Two x y (F k) A B → NbIs x y (F k) (some (srR [A, B])) ∧ NbIs y x (F k) (some (srR [A, B])) := fun {k A B} hk t => by
    have sz := (rows k hk).2.2.toRw.s4'
    exact ⟨nb_two2 sx sy sz (by decide) (by decide) (by decide) t, nb_two2 sy sx sz (by decide) (by decide) (by decide) t.swap⟩
  have bes : ∀ k, 0 < k → k < N → ∃ A B, Two x y (F k) A B ∧ srR [A, B] = srR [F (k - 1), F (k + 1)] ∧ F (k - 1) ≠ F (k + 1) := fun k k0 kN => by
    obtain ⟨D, hD, tw, dn⟩ := two k (by omega)
    have hσ' : -σ = 1 ∨ -σ = -1 := by omega
    obtain ⟨hr1, q1, q10, e1⟩ := hD σ hσ
    obtain ⟨hr2, q2, q20, e2⟩ := hD (-σ) hσ'
    obtain ⟨h, h0, eI, eJ⟩ := st k kN
    obtain ⟨γ1, r1, hR1⟩ := rows (k + 1) (by omega)
    have f1 : D σ = F (k + 1) := same_row (u := 1) (v := h) (by decide) (by omega) (by rw [Int.one_mul]; exact eI) (by rw [Int.one_mul]; exact eJ) q10 γ1 hr1 hR1 e1 r1
    obtain ⟨h', h0', eI', eJ'⟩ := st (k - 1) (by omega)
    rw [show k - 1 + 1 = k by omega] at eI' eJ'
    obtain ⟨γ2, r2, hR2⟩ := rows (k - 1) (by omega)
    obtain ⟨b1, b2⟩ := nIJ_back a b (P (k - 1)).1 (P (k - 1)).2 σ hσ
    rw [eI', eJ'] at b1 b2
    obtain ⟨l1, l2⟩ := nIJ_lin a b h' (P k).1 (P k).2 (-σ)
    rw [l1] at b1
    rw [l2] at b2
    have K : 4 * (a * a * (a * a)) * (b * b * (b * b)) ≠ 0 := Int.mul_ne_zero (Int.mul_ne_zero (by decide) (Int.mul_ne_zero (Int.mul_ne_zero (by omega) (by omega)) (Int.mul_ne_zero (by omega) (by omega)))) (Int.mul_ne_zero (Int.mul_ne_zero (by omega) (by omega)) (Int.mul_ne_zero (by omega) (by omega)))
    have f2 : D (-σ) = F (k - 1) := same_row (u := h') (by omega) K b1 b2 q20 γ2 hr2 hR2 e2 r2
    refine ⟨D 1, D (-1), tw, ?_, ?_⟩
    · rcases hσ with rfl | rfl
      · rw [f1, show D (-1) = F (k - 1) from f2]
        exact srR_congr (List.Perm.swap _ _ [])
      · rw [f1, show D 1 = F (k - 1) from f2]
    · rw [← f1, ← f2]
      rcases hσ with rfl | rfl
      · exact Ne.symm dn
      · exact dn
  obtain ⟨D, hD, tw, dn⟩ := two 0 (Nat.zero_le _)
  obtain ⟨hr1, q1, q10, e1⟩ := hD 1 (.inl rfl)
  obtain ⟨hr2, q2, q20, e2⟩ := hD (-1) (.inr rfl)
  obtain ⟨v, ev⟩ := mn (D 1) (D (-1)) q1 q2 _ q10 q20 e1 e2 hr1 hr2
  have n0 := nbs (Nat.zero_le _) tw
  rw [ev] at n0
  have mid : ∀ k, 0 < k → k < N → ∃ p q, (NbIs x y (F k) (some [p, q]) ∧ NbIs y x (F k) (some [p, q])) ∧ srR [F (k - 1), F (k + 1)] = [p, q] ∧ F (k - 1) ≠ F (k + 1) := fun k k0 kN => by
    obtain ⟨A, B, t, e, ne⟩ := bes k k0 kN
    obtain ⟨p, q, e', _⟩ := srR_two (D1 := F (k - 1)) (D2 := F (k + 1))
    have nb := nbs (show k ≤ N by omega) t
    rw [e, e'] at nb
    exact ⟨p, q, nb, e', ne⟩
  refine ⟨⟨fun k hk => (rows k hk).2.2, fun k k0 kN => ?_, v, n0.1⟩, ⟨fun k hk => (rows k hk).2.2, fun k k0 kN => ?_, v, n0.2⟩⟩
  · obtain ⟨p, q, nb, e, ne⟩ := mid k k0 kN
    exact ⟨p, q, nb.1, e, ne⟩
  · obtain ⟨p, q, nb, e, ne⟩ := mid k k0 kN
    exact ⟨p, q, nb.2, e, ne⟩

theorem stK_cut {a b σ : Int} {P : Nat → Int × Int} {N : Nat} (st : ∀ k, k < N → ∃ h, 0 < h ∧ nI a b (P k).1 (P k).2 σ = h * (P (k + 1)).1 ∧ nJ a b (P k).1 (P k).2 σ = h * (P (k + 1)).2) (r : Nat) : ∀ k, r + k ≤ N → ∃ H : Int, 0 < H ∧ (stK a b σ (P r) k).1 = H * (P (r + k)).1 ∧ (stK a b σ (P r) k).2 = H * (P (r + k)).2
  | 0, _ => ⟨1, by decide, by show (P r).1 = 1 * (P r).1; omega, by show (P r).2 = 1 * (P r).2; omega⟩
  | k + 1, hk => by
    obtain ⟨H, H0, e1, e2⟩ := stK_cut st r k (by omega)
    obtain ⟨h, h0, d1, d2⟩ := st (r + k) (by omega)
    refine ⟨H * h, Int.mul_pos H0 h0, ?_, ?_⟩
    · show nI a b (stK a b σ (P r) k).1 (stK a b σ (P r) k).2 σ = _
      rw [e1, e2, (nIJ_lin a b H _ _ σ).1, d1, show r + (k + 1) = r + k + 1 by omega, Int.mul_assoc]
    · show nJ a b (stK a b σ (P r) k).1 (stK a b σ (P r) k).2 σ = _
      rw [e1, e2, (nIJ_lin a b H _ _ σ).2, d2, show r + (k + 1) = r + k + 1 by omega, Int.mul_assoc]
/-- its links are unlike -/
theorem endC_ne {f0 : Int} {g : G4} {m p a b σ : Int} {N : Nat} {P : Nat → Int × Int} {F : Nat → R4} {γ : Nat → Int} (hf : f0 = 0 ∨ f0 = 1) (dg : dtG g ≠ 0) (pm : p * m ≠ 0) (b0 : 1 ≤ b) (b1 : b ≤ 4) (ab : 2 * b < a) (a1 : a ≤ 17) (n4 : a ≠ 4 * b) (hσ : σ = 1 ∨ σ = -1) (ne : ∀ k, k ≤ N → (P k).1 ≠ 0 ∨ (P k).2 ≠ 0) (st : ∀ k, k < N → ∃ h, 0 < h ∧ nI a b (P k).1 (P k).2 σ = h * (P (k + 1)).1 ∧ nJ a b (P k).1 (P k).2 σ = h * (P (k + 1)).2)
    (rows : ∀ k, k ≤ N → γ k ≠ 0 ∧ RB f0 g (lnR (p * m) (tR m p (P k).1 (P k).2) (P k).1 (P k).2) = mulR (γ k) (F k)) {r k : Nat} (k0 : 1 ≤ k) (k8 : k ≤ 8) (hk : r + k ≤ N) : F r ≠ F (r + k) := fun e => by
  obtain ⟨H, H0, e1, e2⟩ := stK_cut st r k hk
  have ss : σ * σ = 1 := by rcases hσ with rfl | rfl <;> rfl
  have cr := (stK_cross (a := a) (b := b) (σ := σ) (P r).1 (P r).2 ss k).1
  rw [show ((P r).1, (P r).2) = P r from rfl, e1, e2] at cr
  have u0 := uS_ne b0 b1 ab a1 n4 k0 k8
  have nz : (P r).1 * nJ a b (P r).1 (P r).2 σ - (P r).2 * nI a b (P r).1 (P r).2 σ ≠ 0 := by
    rw [nIJ_cross a b _ _ σ hσ]
    have ap : 0 < a * a - 4 * (b * b) := by
      have e : a * a - 4 * (b * b) = (a - 2 * b) * (a + 2 * b) := by grind
      rw [e]
      exact Int.mul_pos (by omega) (by omega)
    have aa := Int.mul_pos (show 0 < a by omega) (show 0 < a by omega)
    have b4 := Int.mul_pos (Int.mul_pos (show 0 < b by omega) (show 0 < b by omega)) (Int.mul_pos (show 0 < b by omega) (show 0 < b by omega))
    have i2 := mul_self_nonneg' (P r).1
    have j2 := mul_self_nonneg' (P r).2
    have x1 := Int.mul_nonneg (show 0 ≤ 4 * (b * b * (b * b)) by omega) i2
    have x2 := Int.mul_nonneg (Int.le_of_lt (Int.mul_pos aa ap)) j2
    have x3 : 0 < 4 * (b * b * (b * b)) * ((P r).1 * (P r).1) + a * a * (a * a - 4 * (b * b)) * ((P r).2 * (P r).2) := by
      rcases ne r (by omega) with z | z
      · have := Int.mul_pos (show 0 < 4 * (b * b * (b * b)) by omega) (imul_self_pos z)
        omega
      · have := Int.mul_pos (Int.mul_pos aa ap) (imul_self_pos z)
        omega
    refine Int.mul_ne_zero (by omega) ?_
    omega
  have c0 : (P r).1 * (P (r + k)).2 - (P (r + k)).1 * (P r).2 ≠ 0 := fun z => by
    have q : (P r).1 * (H * (P (r + k)).2) - (P r).2 * (H * (P (r + k)).1) = H * ((P r).1 * (P (r + k)).2 - (P (r + k)).1 * (P r).2) := by grind
    rw [q, z, Int.mul_zero] at cr
    exact Int.mul_ne_zero u0 nz cr.symm
  obtain ⟨g1, r1⟩ := rows r (by omega)
  obtain ⟨g2, r2⟩ := rows (r + k) hk
  have h3 : mulR (γ (r + k)) (RB f0 g (lnR (p * m) (tR m p (P r).1 (P r).2) (P r).1 (P r).2)) = mulR (γ r) (RB f0 g (lnR (p * m) (tR m p (P (r + k)).1 (P (r + k)).2) (P (r + k)).1 (P (r + k)).2)) := by
    rw [r1, r2, e, mulR_mulR, mulR_mulR, Int.mul_comm]
  obtain ⟨M, M0, h4⟩ := rb_cancel hf dg h3
  exact ln_ne pm (Int.mul_ne_zero g2 M0) (Int.mul_ne_zero g1 M0) c0 h4

/-- how the rounds' joint stands to the world's numbers -/
theorem ratioN {f : Int} {g : G4} {x y z z0 : R4} {α β γ m p d c : Int} (h : Tri f g axR (P2R (p - m) m) z0 x y z α β γ) (m0 : 0 < m) (e : jn x y * jn x y * d = bnd x * bnd y * c) : (p - m) * (p - m) * d = c * (m * m) := by
  have e1 := tr_bnd h.tx
  have e2 := tr_bnd h.ty
  have e4 := tr_jn h.tx h.ty
  rw [Int.mul_one, Int.one_mul] at e1 e2 e4
  rw [bnd_ax] at e1
  rw [bnd_P2] at e2
  rw [jn_axP2] at e4
  have δ := Gi_nm_ne h.dt
  have q : (α * β * jn x y) * (α * β * jn x y) * d = (α * α * bnd x) * (β * β * bnd y) * c := by
    rw [show (α * β * jn x y) * (α * β * jn x y) * d = (α * α * (β * β)) * (jn x y * jn x y * d) by grind, e]
    grind
  rw [e1, e2, e4] at q
  generalize (dtG g).nm = D at *
  have k : (D * D * (m * m) * 4) * ((p - m) * (p - m) * d) = (D * D * (m * m) * 4) * (c * (m * m)) := by grind
  have dd := Int.mul_ne_zero (Int.mul_ne_zero (Int.mul_ne_zero δ δ) (Int.mul_ne_zero (show m ≠ 0 by omega) (show m ≠ 0 by omega))) (show (4 : Int) ≠ 0 by decide)
  exact Int.eq_of_mul_eq_mul_left dd k
theorem stK_t2 {m p a b c i j σ : Int} (hσ : σ = 1 ∨ σ = -1) (b0 : b ≠ 0) (hp : 2 * b * p = c * (a * a)) (em : m = c * b) : tR m p (nI a b i j σ) (nJ a b i j σ) = 4 * (a * a * (a * a)) * (b * b * (b * b)) * tR m p i j := by
  have m2 : 2 * b * m = c * (2 * b * b) := by rw [em]; grind
  have k1 := tR_hom m p i j (2 * b)
  have k2 := tR_hom m p (nI a b i j σ) (nJ a b i j σ) (2 * b)
  have k3 := tR_hom (2 * b * b) (a * a) i j c
  have k4 := tR_hom (2 * b * b) (a * a) (nI a b i j σ) (nJ a b i j σ) c
  have k5 := tR_next a b i j σ hσ
  rw [hp, m2, k3] at k1
  rw [hp, m2, k4, k5] at k2
  generalize tR m p i j = T at *
  generalize tR m p (nI a b i j σ) (nJ a b i j σ) = T' at *
  generalize tR (2 * b * b) (a * a) i j = E at *
  have bb : 2 * b * (2 * b) ≠ 0 := by
    have := Int.mul_ne_zero (show (2 : Int) ≠ 0 by decide) b0
    exact Int.mul_ne_zero this this
  refine Int.eq_of_mul_eq_mul_left bb ?_
  rw [← k2, show 2 * b * (2 * b) * (4 * (a * a * (a * a)) * (b * b * (b * b)) * T) = 4 * (a * a * (a * a)) * (b * b * (b * b)) * (2 * b * (2 * b) * T) by grind, ← k1]
  grind
theorem sq_two {A X : Int} (h : (A - 2 * X) * (A - 2 * X) = A * A) : X * (X - A) = 0 := by
  have : 4 * (X * (X - A)) = (A - 2 * X) * (A - 2 * X) - A * A := by grind
  omega
theorem nt_l (b p m a E s : Int) : 2 * b * (2 * b) * (2 * b * (2 * b)) * ((p * m * (8 * a * (b * b * b) * (-s * E))) * (p * m * (8 * a * (b * b * b) * (-s * E)))) = (2 * b * p) * (2 * b * p) * ((2 * b * m) * (2 * b * m)) * (64 * (a * a) * (b * b * b * (b * b * b)) * (s * s) * (E * E)) := by grind
theorem nt_r (b a T : Int) : 2 * b * (2 * b) * (2 * b * (2 * b)) * (T * (4 * (a * a * (a * a)) * (b * b * (b * b)) * (4 * (a * a * (a * a)) * (b * b * (b * b)) * T))) = (2 * b * (2 * b) * T) * (2 * b * (2 * b) * T) * (16 * (a * a * (a * a) * (a * a * (a * a))) * (b * b * (b * b) * (b * b * (b * b)))) := by grind
theorem nt_k {c a b E : Int} (h3 : c * (a * a) * (c * (a * a)) * (c * (2 * b * b) * (c * (2 * b * b))) * (64 * (a * a) * (b * b * b * (b * b * b)) * (E * E)) = c * c * E * (c * c * E) * (16 * (a * a * (a * a) * (a * a * (a * a))) * (b * b * (b * b) * (b * b * (b * b))))) :
    (c * c * c * c * (E * E) * (a * a * (a * a) * (a * a)) * (b * b * (b * b) * (b * b * (b * b))) * 16) * (16 * (b * b)) = (c * c * c * c * (E * E) * (a * a * (a * a) * (a * a)) * (b * b * (b * b) * (b * b * (b * b))) * 16) * (a * a) := by grind
/-- links two steps apart do not touch -/
theorem no_touch {m p a b c i j σ : Int} (hσ : σ = 1 ∨ σ = -1) (a0 : 0 < a) (b0 : 0 < b) (c0 : 0 < c) (hp : 2 * b * p = c * (a * a)) (em : m = c * b) (n4 : a ≠ 4 * b) (t0 : 0 < tR m p i j) :
    jn (lnR (p * m) (tR m p i j) i j) (lnR (p * m) (tR m p (stK a b σ (i, j) 2).1 (stK a b σ (i, j) 2).2) (stK a b σ (i, j) 2).1 (stK a b σ (i, j) 2).2) * jn (lnR (p * m) (tR m p i j) i j) (lnR (p * m) (tR m p (stK a b σ (i, j) 2).1 (stK a b σ (i, j) 2).2) (stK a b σ (i, j) 2).1 (stK a b σ (i, j) 2).2) ≠
      (tR m p i j * tR m p (stK a b σ (i, j) 2).1 (stK a b σ (i, j) 2).2) * (tR m p i j * tR m p (stK a b σ (i, j) 2).1 (stK a b σ (i, j) 2).2) := fun h => by
  have ss : σ * σ = 1 := by rcases hσ with rfl | rfl <;> rfl
  have cr := (stK_cross (a := a) (b := b) (σ := σ) i j ss 2).1
  have u2 : uS a b 2 = 8 * a * (b * b * b) := by
    show trS a b * 1 - dtS a b * 0 = _
    unfold trS
    omega
  rw [u2, cross_tR a b i j σ hσ] at cr
  have e1 := stK_t2 (i := i) (j := j) hσ (Int.ne_of_gt b0) hp em
  have e2 := stK_t2 (i := nI a b i j σ) (j := nJ a b i j σ) hσ (Int.ne_of_gt b0) hp em
  rw [e1] at e2
  have z2 : stK a b σ (i, j) 2 = (nI a b (nI a b i j σ) (nJ a b i j σ) σ, nJ a b (nI a b i j σ) (nJ a b i j σ) σ) := rfl
  rw [z2] at h cr
  simp only at h cr
  rw [jn_links, e2, cr] at h
  have m2 : 2 * b * m = c * (2 * b * b) := by rw [em]; grind
  have k1 := tR_hom m p i j (2 * b)
  have k3 := tR_hom (2 * b * b) (a * a) i j c
  rw [hp, m2, k3] at k1
  generalize tR (2 * b * b) (a * a) i j = E at *
  generalize tR m p i j = T at *
  have E0 : 0 < E := by
    have q : 0 < 2 * b * (2 * b) * T := Int.mul_pos (Int.mul_pos (by omega) (by omega)) t0
    rw [← k1] at q
    rcases Int.lt_or_le 0 E with o | o
    · exact o
    · have := Int.mul_nonpos_of_nonneg_of_nonpos (Int.le_of_lt (Int.mul_pos c0 c0)) o
      omega
  have p0 : 0 < p := by
    have q : 0 < 2 * b * p := by rw [hp]; exact Int.mul_pos c0 (Int.mul_pos a0 a0)
    rcases Int.lt_or_le 0 p with o | o
    · exact o
    · have := Int.mul_nonpos_of_nonneg_of_nonpos (show 0 ≤ 2 * b by omega) o
      omega
  have m0 : 0 < m := by rw [em]; exact Int.mul_pos c0 b0
  have aa := Int.mul_pos a0 a0
  have bb := Int.mul_pos b0 b0
  have W0 : p * m * (8 * a * (b * b * b) * (-σ * E)) ≠ 0 := by
    have := Int.mul_ne_zero (show -σ ≠ 0 by omega) (Int.ne_of_gt E0)
    exact Int.mul_ne_zero (Int.ne_of_gt (Int.mul_pos p0 m0)) (Int.mul_ne_zero (Int.ne_of_gt (Int.mul_pos (show 0 < 8 * a by omega) (Int.mul_pos bb b0))) this)
  have ww := imul_self_pos W0
  have h2 : (p * m * (8 * a * (b * b * b) * (-σ * E))) * (p * m * (8 * a * (b * b * b) * (-σ * E))) = T * (4 * (a * a * (a * a)) * (b * b * (b * b)) * (4 * (a * a * (a * a)) * (b * b * (b * b)) * T)) := by
    generalize hX : (p * m * (8 * a * (b * b * b) * (-σ * E))) * (p * m * (8 * a * (b * b * b) * (-σ * E))) = X at *
    generalize hA : T * (4 * (a * a * (a * a)) * (b * b * (b * b)) * (4 * (a * a * (a * a)) * (b * b * (b * b)) * T)) = A at *
    have e : A - 2 * (p * m * (8 * a * (b * b * b) * (-σ * E))) * (p * m * (8 * a * (b * b * b) * (-σ * E))) = A - 2 * X := by rw [← hX]; grind
    rw [e] at h
    have k : X * (X - A) = 0 := sq_two h
    have := (Int.mul_eq_zero.mp k).resolve_left (by omega)
    omega
  -- (2 b)^4 of both
  have h3 : 2 * b * (2 * b) * (2 * b * (2 * b)) * _ = 2 * b * (2 * b) * (2 * b * (2 * b)) * _ := congrArg (fun q => 2 * b * (2 * b) * (2 * b * (2 * b)) * q) h2
  rw [nt_l, nt_r, ss, Int.mul_one, ← k1, hp, m2] at h3
  have key := nt_k h3
  have nz : c * c * c * c * (E * E) * (a * a * (a * a) * (a * a)) * (b * b * (b * b) * (b * b * (b * b))) * 16 ≠ 0 := by
    have c4 := Int.mul_pos (Int.mul_pos (Int.mul_pos c0 c0) c0) c0
    have := Int.mul_pos (Int.mul_pos (Int.mul_pos c4 (Int.mul_pos E0 E0)) (Int.mul_pos (Int.mul_pos aa aa) aa)) (Int.mul_pos (Int.mul_pos bb bb) (Int.mul_pos bb bb))
    omega
  have k := Int.eq_of_mul_eq_mul_left nz key
  have q : (a - 4 * b) * (a + 4 * b) = 0 := by grind
  rcases Int.mul_eq_zero.mp q with o | o <;> omega
/-- what does not touch before does not touch behind a map -/
theorem tr_touch {f : Int} {g : G4} {z D z0 D0 : R4} {γ θ : Int} (dt : dtG g ≠ 0) (γ0 : γ ≠ 0) (θ0 : θ ≠ 0) (ez : RB f g z0 = mulR γ z) (eD : RB f g D0 = mulR θ D) (n : jn z0 D0 * jn z0 D0 ≠ bnd z0 * bnd D0) : jn z D * jn z D ≠ bnd z * bnd D := fun h => n (by
  have δ := Gi.nm_pos dt
  have e1 := bnd_rb f g z0
  have e2 := bnd_rb f g D0
  have e3 := jn_rb f g z0 D0
  rw [ez, bnd_mulR] at e1
  rw [eD, bnd_mulR] at e2
  rw [ez, eD, jn_mulR] at e3
  have k : γ * θ * jn z D * (γ * θ * jn z D) = (γ * γ * bnd z) * (θ * θ * bnd D) := by
    rw [show γ * θ * jn z D * (γ * θ * jn z D) = γ * γ * (θ * θ) * (jn z D * jn z D) by grind, h]
    grind
  rw [e1, e2, e3] at k
  refine Int.eq_of_mul_eq_mul_left (show (dtG g).nm * (dtG g).nm ≠ 0 from Int.mul_ne_zero (by omega) (by omega)) ?_
  rw [show (dtG g).nm * (dtG g).nm * (jn z0 D0 * jn z0 D0) = (dtG g).nm * jn z0 D0 * ((dtG g).nm * jn z0 D0) by grind, k]
  grind)

theorem ht_lexW : ∀ {a b : List Int}, a.length = b.length → HT.lexLt a b = lexLt a b
  | [], [], _ => rfl
  | [], _ :: _, h => by simp at h
  | _ :: _, [], h => by simp at h
  | x :: a, y :: b, h => by
    rw [HT.lexLt_cons, lexLt, ht_lexW (a := a) (b := b) (by simpa using h)]
    by_cases e : x = y
    · subst e
      rw [if_pos rfl, if_neg (by omega), if_neg (by omega)]
    · rw [if_neg e]
      by_cases c : x < y
      · rw [if_pos c, decide_eq_true c]
      · rw [if_neg c, if_pos (by omega), decide_eq_false c]
/-- two rounds, sorted by their first comparison -/
theorem srR_lt (X Y : R4) : srR [X, Y] = if HT.lexLt (i4 X) (i4 Y) = true then [X, Y] else [Y, X] := by
  have inj : ∀ {A B : R4}, i4 A = i4 B → A = B := fun {A B} e => by
    unfold i4 at e
    simp only [List.cons.injEq, and_true] at e
    exact Prod.ext e.1 (Prod.ext e.2.1 (Prod.ext e.2.2.1 e.2.2.2))
  have tr : ∀ A : R4, toR (i4 A) = A := fun A => rfl
  unfold srR
  rw [List.map_cons, List.map_cons, List.map_nil, isort2, ht_lexW (a := i4 X) (b := i4 Y) rfl]
  cases c : lexLt (i4 X) (i4 Y) with
  | true =>
    rw [if_pos rfl, if_neg (by rw [lexLt_asym (a := i4 X) (b := i4 Y) rfl c]; decide)]
    rfl
  | false =>
    cases c2 : lexLt (i4 Y) (i4 X) with
    | true => rfl
    | false =>
      have e := inj (lexLt_anti (a := i4 X) (b := i4 Y) rfl c c2)
      subst e
      rfl
theorem fLtU_rd (X Y : R4) : fLtU (rD X) (rD Y) = some (True, .bl (HT.lexLt (i4 X) (i4 Y))) := rfl
/-- the worlds whose chains never close -/
def enA (a0 b0 : Int) : Int × Int := if a0 = 4 * b0 then (5, 2) else (a0 / gcdL 0 [a0, b0], b0 / gcdL 0 [a0, b0])
def enN (a b : Int) : Int × Int := ((a * a - 2 * b * b) / gcdL 0 [a * a - 2 * b * b, 2 * b * b], (2 * b * b) / gcdL 0 [a * a - 2 * b * b, 2 * b * b])
structure EndW (n m a b : Int) : Prop where
  b0 : 1 ≤ b
  b1 : b ≤ 4
  ab : 2 * b < a
  a1 : a ≤ 17
  n4 : a ≠ 4 * b
  n8 : a * a ≠ 8 * (b * b)
  n3 : 3 * (a * a) ≠ 16 * (b * b)
def enOk (n m a b : Int) : Bool := decide (0 < m) && decide (m < n) && decide (n ≤ 300) && decide (m ≤ 40) && decide (1 ≤ b) && decide (b ≤ 4) && decide (2 * b < a) && decide (a ≤ 17) && decide (a ≠ 4 * b) && decide (a * a ≠ 8 * (b * b)) && decide (3 * (a * a) ≠ 16 * (b * b)) && decide (m = m / b * b) && decide (0 < m / b) && decide (m / b * a * (m / b * a) = 2 * m * (n + m))
theorem en_all : ∀ b0 ∈ [(1 : Int), 2, 3, 4], ∀ d ∈ [(0 : Int), 1, 2, 3, 4, 5, 6, 7, 8], enOk (enN (enA (2 * b0 + 1 + d) b0).1 (enA (2 * b0 + 1 + d) b0).2).1 (enN (enA (2 * b0 + 1 + d) b0).1 (enA (2 * b0 + 1 + d) b0).2).2 (enA (2 * b0 + 1 + d) b0).1 (enA (2 * b0 + 1 + d) b0).2 = true := by decide +kernel
theorem en_wld {n m a b : Int} (h : enOk n m a b = true) : Wld n m a b ∧ EndW n m a b := by
  unfold enOk at h
  simp only [Bool.and_eq_true, decide_eq_true_eq] at h
  obtain ⟨⟨⟨⟨⟨⟨⟨⟨⟨⟨⟨⟨⟨h1, h2⟩, h3⟩, h4⟩, h5⟩, h6⟩, h7⟩, h8⟩, h9⟩, h10⟩, h11⟩, h12⟩, h13⟩, h14⟩ := h
  exact ⟨⟨h1, h2, h3, h4, .inr ⟨m / b * a, m / b, h14, by omega, by omega, h13, rfl, h12⟩, by omega, by omega, by omega, by omega⟩, ⟨h5, h6, h7, h8, h9, h10, h11⟩⟩
theorem w__law_endless {T : Tk} {k : KD} (hT : TkS T) (h : ∀ n m a b T', Wld n m a b → EndW n m a b → TkS T' → k (wlD n m a b) T') : sm__law_endless [.tank] T k := by
  rw [e__law_endless, b__law_endless]
  walk_at "wk"
  refine w__law_dip hT (by decide) (by decide) fun b T1 b0 b1 hT1 => ?_
  walk_at "wk"
  refine ⟨lit_mul (by decide), ?_⟩
  refine w__law_dip hT1 (by decide) (by decide) fun d T2 d0 d1 hT2 => ?_
  have ok := en_all (1 + b) (by simp only [List.mem_cons, List.not_mem_nil, or_false]; omega) d (by simp only [List.mem_cons, List.not_mem_nil, or_false]; omega)
  have a0 : 2 * (1 + b) + 1 + d ≤ 17 ∧ 0 < 2 * (1 + b) + 1 + d := by omega
  have b0' : 1 + b ≤ 4 ∧ 0 < 1 + b := by omega
  walk_at "wk"
  generalize 2 * (1 + b) + 1 + d = A at *
  generalize 1 + b = B at *
  have rest : ∀ (a b : Int) (K : KD), enOk (enN a b).1 (enN a b).2 a b = true → (∀ n m, Wld n m a b → EndW n m a b → K (.tup [.int n, .int m]) T2) → sm__law_cut [.val (.tup [.int (a * a - 2 * b * b), .int (2 * b * b)])] T2 K := fun a b K ok q => by
    obtain ⟨hw, he⟩ := en_wld ok
    have e0 := he.b0
    have e1 := he.b1
    have sb : 2 * b * b ≤ 40 ∧ 0 < 2 * b * b := by
      obtain rfl | rfl | rfl | rfl : b = 1 ∨ b = 2 ∨ b = 3 ∨ b = 4 := by omega
      all_goals decide
    refine w__law_cut (ns := [a * a - 2 * b * b, 2 * b * b]) (by simp) (n := 2 * b * b) (by simp) (by omega) ((sz_nat (n := 6) 40 (by omega) (by omega) (by decide)).mono (by decide)) ?_
    exact q _ _ hw he
  have mo : ∀ (a b : Int), enOk (enN a b).1 (enN a b).2 a b = true → MulOk a a ∧ MulOk 2 b ∧ MulOk (2 * b) b := fun a b ok => by
    obtain ⟨hw, he⟩ := en_wld ok
    have e0 := he.b0
    have e1 := he.b1
    have e2 := he.ab
    have e3 := he.a1
    exact ⟨lit_mul (by omega), lit_mul (by decide), lit_mul (by omega)⟩
  refine ⟨lit_mul (by decide), ?_⟩
  refine iteB_of (fun c => ?_) (fun c => ?_)
  rotate_left
  · have c : ¬ A = 4 * B := of_decide_eq_false c
    unfold enA at ok
    rw [if_neg c] at ok
    walk_at "wk"
    refine w__law_cut (ns := [A, B]) (by simp) (n := B) (by simp) (by omega) ((sz_nat (n := 6) 40 (by omega) (by omega) (by decide)).mono (by decide)) ?_
    rw [show (lowL [A, B]).map D.int = [.int (A / gcdL 0 [A, B]), .int (B / gcdL 0 [A, B])] from rfl]
    simp only at ok
    generalize A / gcdL 0 [A, B] = a at *
    generalize B / gcdL 0 [A, B] = b at *
    obtain ⟨m1, m2, m3⟩ := mo a b ok
    walk_at "wk"
    refine ⟨m1, m2, m3, m2, m3, ?_⟩
    refine rest a b _ ok fun n m hw he => ?_
    walk_at "wk"
    exact h _ _ _ _ _ hw he hT2
  · have c : A = 4 * B := of_decide_eq_true c
    unfold enA at ok
    rw [if_pos c] at ok
    obtain ⟨m1, m2, m3⟩ := mo 5 2 ok
    walk_at "wk"
    refine ⟨m1, m2, m3, m2, m3, ?_⟩
    refine rest 5 2 _ ok fun n m hw he => ?_
    walk_at "wk"
    exact h _ _ _ _ _ hw he hT2
/-- what a chain's turns have made -/
structure ChOk (n m a b f : Int) (g : G4) (σ : Int) (N : Nat) (P : Nat → Int × Int) (F : Nat → R4) (γ : Nat → Int) : Prop where
  ne : ∀ k, k ≤ N → (P k).1 ≠ 0 ∨ (P k).2 ≠ 0
  sz : ∀ k, k ≤ N → Sz (11 + 24 * k) (P k).1 ∧ Sz (11 + 24 * k) (P k).2
  st : ∀ k, k < N → ∃ h, 0 < h ∧ nI a b (P k).1 (P k).2 σ = h * (P (k + 1)).1 ∧ nJ a b (P k).1 (P k).2 σ = h * (P (k + 1)).2
  rows : ∀ k, k < N → γ k ≠ 0 ∧ RB f (Bk f g) (lnR ((n + m) * m) (tR m (n + m) (P k).1 (P k).2) (P k).1 (P k).2) = mulR (γ k) (F k) ∧ Rd 600 (F k)
theorem chL_upd (F : Nat → R4) (c : Nat) (t : R4) : chL (fun k => if k = c then t else F k) (c + 1) = chL F c ++ [rD t] := by
  rw [chL_s]
  simp only [if_true]
  congr 1
  unfold chL
  refine List.map_congr_left fun j hj => ?_
  have := List.mem_range.mp hj
  simp only [if_neg (show ¬ j = c by omega)]
theorem ChOk.push {n m a b f σ : Int} {g : G4} {c : Nat} {P : Nat → Int × Int} {F : Nat → R4} {γ : Nat → Int} (o : ChOk n m a b f g σ c P F γ) {x y h q : Int} {t : R4} (h0 : 0 < h) (e1 : nI a b (P c).1 (P c).2 σ = h * x) (e2 : nJ a b (P c).1 (P c).2 σ = h * y) (sx : Sz (11 + 24 * (c + 1)) x) (sy : Sz (11 + 24 * (c + 1)) y) (ne : x ≠ 0 ∨ y ≠ 0)
    (q0 : q ≠ 0) (er : RB f (Bk f g) (lnR ((n + m) * m) (tR m (n + m) (P c).1 (P c).2) (P c).1 (P c).2) = mulR q t) (ht : Rd 600 t) : ChOk n m a b f g σ (c + 1) (fun k => if k = c + 1 then (x, y) else P k) (fun k => if k = c then t else F k) (fun k => if k = c then q else γ k) := by
  have pc : ∀ k, k ≤ c → (if k = c + 1 then (x, y) else P k) = P k := fun k hk => if_neg (by omega)
  have pt : (if c + 1 = c + 1 then (x, y) else P (c + 1)) = (x, y) := if_pos rfl
  refine ⟨fun k hk => ?_, fun k hk => ?_, fun k hk => ?_, fun k hk => ?_⟩
  · by_cases e : k = c + 1
    · rw [if_pos e]; exact ne
    · rw [if_neg e]; exact o.ne k (by omega)
  · by_cases e : k = c + 1
    · rw [if_pos e, e]; exact ⟨sx, sy⟩
    · rw [if_neg e]; exact o.sz k (by omega)
  · rw [pc k (by omega)]
    by_cases e : k = c
    · rw [e, pt]; exact ⟨h, h0, e1, e2⟩
    · rw [pc (k + 1) (by omega)]; exact o.st k (by omega)
  · rw [pc k (by omega)]
    by_cases e : k = c
    · rw [if_pos e, if_pos e, e]; exact ⟨q0, er, ht⟩
    · rw [if_neg e, if_neg e]; exact o.rows k (by omega)
theorem chain_for {K : dEnds} {A3 A4 : Option SV} {T : Tk} {n m a b f σ : Int} {g : G4} {p0 : Int × Int} (hw : Wld n m a b) (he : EndW n m a b) (hg : Mq 24 f g) (hσ : σ = 1 ∨ σ = -1) {N : Nat} (hN : N ≤ 9)
    (fin : ∀ P F γ s7, P 0 = p0 → ChOk n m a b f g σ N P F γ → K.nx [some (.val (wlD n m a b)), some (.val (mD f g)), some (.val (.tup [.int (P N).1, .int (P N).2])), A3, A4, some (.val (.int σ)), some (.own (chL F N)), s7] T) :
    ∀ (r c : Nat) (P : Nat → Int × Int) (F : Nat → R4) (γ : Nat → Int) (s7 : Option SV), c + r = N → P 0 = p0 → ChOk n m a b f g σ c P F γ →
      forL (gN 7) (sSeq (sApp 6 (dCall 2 sm__law_led_round (aCons (dVar 1) (aCons (dCall 2 sm__law_link (aCons (dVar 0) (aCons (dVar 2) (aNil)))) (aNil))))) (sAsg (dCall 3 sm__law_next (aCons (dVar 0) (aCons (dVar 2) (aCons (dVar 5) (aNil))))) (gN 2))) K (intsL c r) [some (.val (wlD n m a b)), some (.val (mD f g)), some (.val (.tup [.int (P c).1, .int (P c).2])), A3, A4, some (.val (.int σ)), some (.own (chL F c)), s7] T
  | 0, c, P, F, γ, s7, e, p, o => by
    obtain rfl : c = N := by omega
    exact fin P F γ s7 p o
  | r + 1, c, P, F, γ, s7, e, p, o => by
    have ih := chain_for hw he hg hσ hN fin r (c + 1)
    show forL (gN 7) (sSeq (sApp 6 (dCall 2 sm__law_led_round (aCons (dVar 1) (aCons (dCall 2 sm__law_link (aCons (dVar 0) (aCons (dVar 2) (aNil)))) (aNil))))) (sAsg (dCall 3 sm__law_next (aCons (dVar 0) (aCons (dVar 2) (aCons (dVar 5) (aNil))))) (gN 2))) K (.int c :: intsL ((c : Int) + 1) r) _ T
    rw [show ((c : Int) + 1) = ((c + 1 : Nat) : Int) by push_cast; rfl, forL_c]
    generalize forL (gN 7) (sSeq (sApp 6 (dCall 2 sm__law_led_round (aCons (dVar 1) (aCons (dCall 2 sm__law_link (aCons (dVar 0) (aCons (dVar 2) (aNil)))) (aNil))))) (sAsg (dCall 3 sm__law_next (aCons (dVar 0) (aCons (dVar 2) (aCons (dVar 5) (aNil))))) (gN 2))) K (intsL ((c + 1 : Nat) : Int) r) = RR at ih ⊢
    obtain ⟨s1, s2⟩ := o.sz c (Nat.le_refl _)
    have ne := o.ne c (Nat.le_refl _)
    have b0 := he.b0
    have b1 := he.b1
    have ab := he.ab
    have a1 := he.a1
    have sa : Sz 5 a := sz_nat 17 (by omega) (by omega) (by decide)
    have sb : Sz 3 b := sz_nat 4 (by omega) (by omega) (by decide)
    walk_at "wkn"
    refine w__law_link hw s1 s2 ne (by omega) fun z0 η q0 ez0 hz0 => ?_
    walk_at "wkn"
    refine w__law_led_round hg hz0.mr.s hz0.bend (by omega) fun t θ r0 et ht => ?_
    have er : RB f (Bk f g) (lnR ((n + m) * m) (tR m (n + m) (P c).1 (P c).2) (P c).1 (P c).2) = mulR (η * θ) t := by
      rw [← thd_tR, show n + m - m = n by omega, ez0, rb_mul, et, mulR_mulR]
    walk_at "wkn"
    refine ⟨by rw [chL_len]; omega, ?_⟩
    refine w__law_next2 (s := 11 + 24 * c) sa sb (by omega) (by omega) s1 s2 (by omega) ne hσ fun h x y h0 e1 e2 sx sy nxy => ?_
    walk_at "wkn"
    have q := ih _ _ _ (some (.val (.int c))) (by omega) (by simp only [if_neg (show ¬ 0 = c + 1 by omega)]; exact p) (o.push h0 e1 e2 sx sy nxy (Int.mul_ne_zero q0 r0) er (ht.mono (by omega)))
    rw [chL_upd] at q
    simp only [if_true] at q
    exact q
theorem w__law_chain {T : Tk} {n m a b f i j : Int} {g : G4} {N : Nat} {k : KD} (hw : Wld n m a b) (he : EndW n m a b) (hg : Mq 24 f g) (hs : startOk i j) (N0 : 2 ≤ N) (hN : N ≤ 9)
    (h : ∀ (σ : Int) P F γ, (σ = 1 ∨ σ = -1) → P 0 = (i, j) → ChOk n m a b f g σ N P F γ → (∀ (D1 D2 : R4) (q1 q2 : Int) (l : Nat), q1 ≠ 0 → q2 ≠ 0 → RB f (Bk f g) (lnR ((n + m) * m) (tR m (n + m) (nI a b (P 0).1 (P 0).2 1) (nJ a b (P 0).1 (P 0).2 1)) (nI a b (P 0).1 (P 0).2 1) (nJ a b (P 0).1 (P 0).2 1)) = mulR q1 D1 → RB f (Bk f g) (lnR ((n + m) * m) (tR m (n + m) (nI a b (P 0).1 (P 0).2 (-1)) (nJ a b (P 0).1 (P 0).2 (-1))) (nI a b (P 0).1 (P 0).2 (-1)) (nJ a b (P 0).1 (P 0).2 (-1))) = mulR q2 D2 → Rd l D1 → Rd l D2 → ∃ v, srR [D1, D2] = [F 1, v]) → k (.tup (chL F N)) T) :
    sm__law_chain [.val (wlD n m a b), .val (mD f g), .val (.tup [.int i, .int j]), .val (.int N)] T k := by
  have b0 := he.b0
  have b1 := he.b1
  have ab := he.ab
  have a1 := he.a1
  have sa : Sz 5 a := sz_nat 17 (by omega) (by omega) (by decide)
  have sb : Sz 3 b := sz_nat 4 (by omega) (by omega) (by decide)
  have si : Sz 11 i := hs.2.1
  have sj : Sz 11 j := hs.2.2.1.mono (by decide)
  rw [e__law_chain, b__law_chain]
  walk_at "wk"
  refine w__law_next2 (s := 11) sa sb (by omega) (by omega) si sj (by decide) hs.1 (.inl rfl) fun g1 c1 d1 g10 eI1 eJ1 sc1 sd1 ne1 => ?_
  walk_at "wk"
  refine w__law_link hw sc1 sd1 ne1 (by decide) fun z1 η1 q1 ez1 hz1 => ?_
  walk_at "wk"
  refine w__law_led_round hg hz1.mr.s hz1.bend (by decide) fun t1 θ1 r1 et1 ht1 => ?_
  walk_at "wk"
  refine w__law_next2 (s := 11) sa sb (by omega) (by omega) si sj (by decide) hs.1 (.inr rfl) fun g2 c2 d2 g20 eI2 eJ2 sc2 sd2 ne2 => ?_
  walk_at "wk"
  refine w__law_link hw sc2 sd2 ne2 (by decide) fun z2 η2 q2 ez2 hz2 => ?_
  walk_at "wk"
  refine w__law_led_round hg hz2.mr.s hz2.bend (by decide) fun t2 θ2 r2 et2 ht2 => ?_
  have pmz : ∀ {k h c d : Int} {w0 t : R4} {η θ I J : Int}, 0 < h → I = h * c → J = h * d → η ≠ 0 → θ ≠ 0 → lnR ((n + m) * m) (thd n m c d) c d = mulR η w0 → RB f (Bk f g) w0 = mulR θ t → RB f (Bk f g) (lnR ((n + m) * m) (tR m (n + m) c d) c d) = mulR (η * θ) t := fun {k h c d w0 t η θ I J} _ _ _ _ _ e1 e2 => by
    rw [← thd_tR, show n + m - m = n by omega, e1, rb_mul, e2, mulR_mulR]
  have e1 := pmz (k := 0) g10 eI1 eJ1 q1 r1 ez1 et1
  have e2 := pmz (k := 0) g20 eI2 eJ2 q2 r2 ez2 et2
  walk_at "wkn"
  rw [fLtU_rd]
  walk_at "wkn"
  have go : ∀ σ : Int, (σ = 1 ∨ σ = -1) → (σ = 1 → HT.lexLt (i4 t1) (i4 t2) = true) → (σ = -1 → ¬ HT.lexLt (i4 t1) (i4 t2) = true) → ∀ P F γ, P 0 = (i, j) → ChOk n m a b f g σ N P F γ → k (.tup (chL F N)) T := fun σ hσ y1 y2 P F γ p0 ok => by
    refine h σ P F γ hσ p0 ok fun D1 D2 p1 p2 l p10 p20 f1 f2 hD1 hD2 => ?_
    rw [p0] at f1 f2
    simp only at f1 f2
    have i1 : D1 = t1 := same_row (u := 1) (v := g1) (by decide) (by omega) (by rw [Int.one_mul]; exact eI1) (by rw [Int.one_mul]; exact eJ1) p10 (Int.mul_ne_zero q1 r1) hD1 ht1 f1 e1
    have i2 : D2 = t2 := same_row (u := 1) (v := g2) (by decide) (by omega) (by rw [Int.one_mul]; exact eI2) (by rw [Int.one_mul]; exact eJ2) p20 (Int.mul_ne_zero q2 r2) hD2 ht2 f2 e2
    subst i1 i2
    obtain ⟨z0, ez, hz⟩ := ok.rows 1 (by omega)
    obtain ⟨v, v0, vI, vJ⟩ := ok.st 0 (by omega)
    rw [p0] at vI vJ
    simp only [Nat.zero_add] at vI vJ
    rw [srR_lt]
    rcases hσ with rfl | rfl
    · rw [if_pos (y1 rfl)]
      have : D1 = F 1 := same_row (u := g1) (v := v) (by omega) (by omega) (by rw [← eI1, vI]) (by rw [← eJ1, vJ]) (Int.mul_ne_zero q1 r1) z0 hD1 hz e1 ez
      exact ⟨_, by rw [this]⟩
    · rw [if_neg (y2 rfl)]
      have : D2 = F 1 := same_row (u := g2) (v := v) (by omega) (by omega) (by rw [← eI2, vI]) (by rw [← eJ2, vJ]) (Int.mul_ne_zero q2 r2) z0 hD2 hz e2 ez
      exact ⟨_, by rw [this]⟩
  have o0 : ∀ σ, ChOk n m a b f g σ 0 (fun _ => (i, j)) (fun _ => t1) (fun _ => 1) := fun σ => ⟨fun k hk => hs.1, fun k hk => by
    obtain rfl : k = 0 := by omega
    exact ⟨si, sj⟩, fun k hk => by omega, fun k hk => by omega⟩
  refine iteB_of (fun c => ?_) (fun c => ?_)
  · walk_at "wkn"
    refine ⟨⟨by omega, by omega⟩, ?_⟩
    rw [Int.toNat_natCast]
    refine chain_for hw he hg (.inl rfl) hN (fun P F γ s7 p0 ok => ?_) N 0 (fun _ => (i, j)) (fun _ => t1) (fun _ => 1) none (by omega) rfl (o0 1)
    walk_at "wkn"
    exact go 1 (.inl rfl) (fun _ => c) (fun z => by omega) P F γ p0 ok
  · walk_at "wkn"
    refine ⟨⟨by omega, by omega⟩, ?_⟩
    rw [Int.toNat_natCast]
    refine chain_for hw he hg (.inr rfl) hN (fun P F γ s7 p0 ok => ?_) N 0 (fun _ => (i, j)) (fun _ => t1) (fun _ => 1) none (by omega) rfl (o0 (-1))
    walk_at "wkn"
    exact go (-1) (.inr rfl) (fun z => by omega) (fun _ => by rw [c]; decide) P F γ p0 ok

/-- all that an endless chain comes to, seen through its map -/
structure EndF (x y : R4) (N : Nat) (F : Nat → R4) : Prop where
  ne : x ≠ y
  ap : 0 < wgt x y
  cnt : cntD x y = .non
  lk : ∀ k, k < N → lkB x y (F k) = true
  rd : ∀ k, k < N → Rd 600 (F k)
  ec : EndC x y (N - 1) F ∧ EndC y x (N - 1) F
  df : ∀ i j, i < j → j < N → F i ≠ F j
  tc : ∀ k, k + 1 < N → jn (F k) (F (k + 1)) * jn (F k) (F (k + 1)) = bnd (F k) * bnd (F (k + 1))
  nt : jn (F 0) (F 2) * jn (F 0) (F 2) ≠ bnd (F 0) * bnd (F 2)
theorem end_facts {n m a b f α β gp σ : Int} {g : G4} {x y Q : R4} {N : Nat} {P : Nat → Int × Int} {F : Nat → R4} {γ : Nat → Int} (hw : Wld n m a b) (he : EndW n m a b) (hg : Mq 24 f g) (hx : Rd 100 x) (hy : Rd 100 y) (α0 : α ≠ 0) (gp0 : gp ≠ 0) (β0 : β ≠ 0) (eα : RB f (Bk f g) axR = mulR α x) (eP : P2R n m = mulR gp Q) (eβ : RB f (Bk f g) Q = mulR β y)
    (hσ : σ = 1 ∨ σ = -1) (N3 : 3 ≤ N) (N9 : N ≤ 9) (ok : ChOk n m a b f g σ N P F γ)
    (mn : ∀ (D1 D2 : R4) (q1 q2 : Int) (l : Nat), q1 ≠ 0 → q2 ≠ 0 → RB f (Bk f g) (lnR ((n + m) * m) (tR m (n + m) (nI a b (P 0).1 (P 0).2 1) (nJ a b (P 0).1 (P 0).2 1)) (nI a b (P 0).1 (P 0).2 1) (nJ a b (P 0).1 (P 0).2 1)) = mulR q1 D1 → RB f (Bk f g) (lnR ((n + m) * m) (tR m (n + m) (nI a b (P 0).1 (P 0).2 (-1)) (nJ a b (P 0).1 (P 0).2 (-1))) (nI a b (P 0).1 (P 0).2 (-1)) (nJ a b (P 0).1 (P 0).2 (-1))) = mulR q2 D2 → Rd l D1 → Rd l D2 → ∃ v, srR [D1, D2] = [F 1, v]) : EndF x y N F := by
  have m0 := hw.m0
  have nm := hw.nm
  have n1 := hw.n1
  have m1 := hw.m1
  have d0 : 0 < n + m - 2 * m := by omega
  have en : n + m - m = n := by omega
  have b0 := he.b0
  have b1 := he.b1
  have ab := he.ab
  have a1 := he.a1
  have tp : ∀ i j : Int, (i ≠ 0 ∨ j ≠ 0) → 0 < tR m (n + m) i j := fun i j ne => by rw [← thd_tR, en]; exact thd_pos m0 nm ne
  have sf : Sz 16 ((n + m) * m) := (wld_f hw).1
  have ey : RB f (Bk f g) (P2R (n + m - m) m) = mulR (gp * β) y := by rw [en, eP, rb_mul, eβ, mulR_mulR]
  have gβ0 := Int.mul_ne_zero gp0 β0
  have db := dt_bk (f := f) hg.dt
  have tri : ∀ k, k < N → Tri f (Bk f g) axR (P2R (n + m - m) m) (lnR ((n + m) * m) (tR m (n + m) (P k).1 (P k).2) (P k).1 (P k).2) x y (F k) α (gp * β) (γ k) := fun k hk => by
    obtain ⟨z0, ez, _⟩ := ok.rows k hk
    exact ⟨hg.fl, db, α0, gβ0, z0, eα, ey, ez⟩
  have t0 := tri 0 (by omega)
  have ap := tri_wgt t0 m0 d0
  obtain ⟨ea, nr⟩ | ⟨R, c, hR, a0, b0', c0, eR, em⟩ := hw.rt
  · omega
  have hp : 2 * b * (n + m) = c * (a * a) := hp_of c0 hR eR em
  have sa : Sz 8 a := sz_nat 17 (by omega) (by omega) (by decide)
  have sb : Sz 6 b := sz_nat 4 (by omega) (by omega) (by decide)
  have sm : Sz 6 m := sz_nat 40 (by omega) (by omega) (by decide)
  have sp : Sz 10 (n + m - m) := sz_nat 300 (by omega) (by omega) (by decide)
  have c2 : c * (a * a - 2 * (b * b)) = 2 * b * n := by
    have : c * (a * a - 2 * (b * b)) = c * (a * a) - 2 * b * (c * b) := by grind
    rw [this, ← hp, ← em]
    grind
  have cnt : ∀ p q : Int, n * n * q = p * (m * m) → c * c * ((a * a - 2 * (b * b)) * (a * a - 2 * (b * b)) * q) = c * c * (p * (4 * (b * b * (b * b)))) := fun p q e => by
    have : c * c * ((a * a - 2 * (b * b)) * (a * a - 2 * (b * b)) * q) = (c * (a * a - 2 * (b * b))) * (c * (a * a - 2 * (b * b))) * q := by grind
    rw [this, c2, show 2 * b * n * (2 * b * n) * q = 4 * (b * b) * (n * n * q) by grind, e, em]
    grind
  have cc : c * c ≠ 0 := Int.mul_ne_zero (by omega) (by omega)
  have cnt' : ∀ p q : Int, n * n * q = p * (m * m) → (a * a - 2 * (b * b)) * (a * a - 2 * (b * b)) * q = p * (4 * (b * b * (b * b))) := fun p q e => Int.eq_of_mul_eq_mul_left cc (cnt p q e)
  have bbp := Int.mul_pos (show 0 < b by omega) (show 0 < b by omega)
  have b4p := Int.mul_pos bbp bbp
  have aap : 4 * (b * b) < a * a := by
    have := Int.mul_pos (show 0 < a - 2 * b by omega) (show 0 < a + 2 * b by omega)
    have e : (a - 2 * b) * (a + 2 * b) = a * a - 4 * (b * b) := by grind
    omega
  have non : cntD x y = .non := by
    unfold cntD
    rw [if_neg, if_neg, if_neg]
    · intro z
      have k := cnt' 25 9 (by have := ratioN t0 m0 z; rw [en] at this; exact this)
      obtain ⟨ε, hε, e'⟩ := sq_pm (a := 3 * (a * a - 2 * (b * b))) (b := 10 * (b * b)) (by grind)
      have n3 := he.n3
      rcases hε with rfl | rfl <;> omega
    · intro z
      have k := cnt' 9 1 (by have := ratioN t0 m0 z; rw [en] at this; exact this)
      obtain ⟨ε, hε, e'⟩ := sq_pm (a := a * a - 2 * (b * b)) (b := 6 * (b * b)) (by grind)
      have n8 := he.n8
      rcases hε with rfl | rfl <;> omega
    · intro z
      have k := cnt' 49 1 (by have := ratioN t0 m0 z; rw [en] at this; exact this)
      obtain ⟨ε, hε, e'⟩ := sq_pm (a := a * a - 2 * (b * b)) (b := 14 * (b * b)) (by grind)
      have n4 := he.n4
      have q : a * a = 16 * (b * b) := by rcases hε with rfl | rfl <;> omega
      have q : (a - 4 * b) * (a + 4 * b) = 0 := by
        have e : (a - 4 * b) * (a + 4 * b) = a * a - 16 * (b * b) := by grind
        omega
      rcases Int.mul_eq_zero.mp q with o | o <;> omega
  have st' : ∀ k, k < N - 1 → ∃ h, 0 < h ∧ nI a b (P k).1 (P k).2 σ = h * (P (k + 1)).1 ∧ nJ a b (P k).1 (P k).2 σ = h * (P (k + 1)).2 := fun k hk => ok.st k (by omega)
  have ec := endC_at (N := N - 1) (s := 300) hg.fl (n4_bk (f := f) hg.n4) db α0 gβ0 eα ey sf sm sp sa sb m0 d0 tp hR a0 b0' c0 eR em hσ hx hy (fun k hk => ok.ne k (by omega)) (fun k hk => by
      obtain ⟨s1, s2⟩ := ok.sz k (by omega)
      exact ⟨s1.mono (by omega), s2.mono (by omega)⟩) st' (fun k hk => by
      obtain ⟨z1, z2, z3⟩ := ok.rows k (by omega)
      exact ⟨z1, z2, z3.mono (by decide)⟩) (by omega) mn
  refine ⟨wgt_ne ap, ap, non, fun k hk => ?_, fun k hk => (ok.rows k hk).2.2, ec, fun i j ij hj => ?_, fun k hk => ?_, ?_⟩
  · exact tri_lk (tri k hk) m0 d0 (tp _ _ (ok.ne k (by omega))) (bnd_ln _ _ _ _ _) (jn_lnax _ _ _ _ _) (.inl rfl) (by rw [jn_lnP2, Int.mul_one])
  · have := endC_ne (N := N - 1) (P := P) (F := F) (γ := γ) hg.fl db (Int.mul_ne_zero (show n + m ≠ 0 by omega) (show m ≠ 0 by omega)) b0 b1 ab a1 he.n4 hσ (fun k hk => ok.ne k (by omega)) st' (fun k hk => ⟨(ok.rows k (by omega)).1, (ok.rows k (by omega)).2.1⟩) (r := i) (k := j - i) (by omega) (by omega) (by omega)
    rw [show i + (j - i) = j by omega] at this
    exact this
  · obtain ⟨z1, z2, z3⟩ := ok.rows k (by omega)
    obtain ⟨y1, y2, y3⟩ := ok.rows (k + 1) hk
    obtain ⟨h, h0, eI, eJ⟩ := ok.st k (by omega)
    have ne := nIJ_ne (i := (P k).1) (j := (P k).2) a0 b0' hσ (ok.ne k (by omega))
    have e2 : RB f (Bk f g) (lnR ((n + m) * m) (tR m (n + m) (nI a b (P k).1 (P k).2 σ) (nJ a b (P k).1 (P k).2 σ)) (nI a b (P k).1 (P k).2 σ) (nJ a b (P k).1 (P k).2 σ)) = mulR (h * h * γ (k + 1)) (F (k + 1)) := by
      rw [eI, eJ, ln_hom2, rb_mul, y2, mulR_mulR]
    have t := touch_due hg.fl db z1 (Int.mul_ne_zero (Int.mul_ne_zero (show h ≠ 0 by omega) (show h ≠ 0 by omega)) y1) m0 (show 0 < n + m by omega) (tp _ _ (ok.ne k (by omega))) (tp _ _ ne) (ok.ne k (by omega)) z2 e2 (jn_next hσ (by omega) (by omega) hp em) z3.bend
    exact t.2
  · obtain ⟨z1, z2, z3⟩ := ok.rows 0 (by omega)
    obtain ⟨y1, y2, y3⟩ := ok.rows 2 (by omega)
    obtain ⟨H, H0, e1, e2⟩ := stK_cut (N := N) (P := P) (a := a) (b := b) (σ := σ) (fun k hk => ok.st k hk) 0 2 (by omega)
    rw [Nat.zero_add] at e1 e2
    have e3 : RB f (Bk f g) (lnR ((n + m) * m) (tR m (n + m) (stK a b σ (P 0) 2).1 (stK a b σ (P 0) 2).2) (stK a b σ (P 0) 2).1 (stK a b σ (P 0) 2).2) = mulR (H * H * γ 2) (F 2) := by
      rw [e1, e2, ln_hom2, rb_mul, y2, mulR_mulR]
    refine tr_touch db z1 (Int.mul_ne_zero (Int.mul_ne_zero (show H ≠ 0 by omega) (show H ≠ 0 by omega)) y1) z2 e3 ?_
    have nt := no_touch (i := (P 0).1) (j := (P 0).2) hσ a0 b0' c0 hp em he.n4 (tp _ _ (ok.ne 0 (by omega)))
    rw [show ((P 0).1, (P 0).2) = P 0 from rfl] at nt
    intro q
    rw [bnd_ln, bnd_ln] at q
    refine nt ?_
    rw [q]
    grind

theorem wide5e {x : D} (h : x ∈ [D.int 1, .int 1, .int 2, .int 3, .int 9]) : ∃ w : Int, x = .int w ∧ 1 ≤ w ∧ w ≤ 1000000 ∧ (w + 999).toNat < 2 ^ 10 := by
  simp only [List.mem_cons, List.not_mem_nil, or_false] at h
  rcases h with rfl | rfl | rfl | rfl | rfl <;> exact ⟨_, rfl, by decide, by decide, by decide⟩
theorem EndF.swap {x y : R4} {N : Nat} {F : Nat → R4} (h : EndF x y N F) : EndF y x N F :=
  ⟨Ne.symm h.ne, by rw [wgt_swap]; exact h.ap, by rw [cntD_swap]; exact h.cnt, fun k hk => by rw [lkB_swap]; exact h.lk k hk, h.rd, ⟨h.ec.2, h.ec.1⟩, h.df, h.tc, h.nt⟩
theorem tups_rd : ∀ l : List R4, tups? (l.map rD) = some (l.map i4)
  | [] => rfl
  | r :: l => by
    have ih := tups_rd l
    rw [List.map_cons, List.map_cons]
    show tups? (.tup _ :: _) = _
    unfold tups?
    rw [ih]
    rfl
theorem chL_map (F : Nat → R4) (N : Nat) : chL F N = ((List.range N).map F).map rD := by unfold chL; rw [List.map_map]; rfl
theorem EndF.lenS {x y : R4} {N : Nat} {F : Nat → R4} (h : EndF x y N F) (hN : N ≤ 9) : LenS (.tup (chL F N)) := by
  refine ⟨((List.range N).map F).map i4, by rw [chL_map, tups_rd], ?_, by simp; omega⟩
  have inj : ∀ {A B : R4}, i4 A = i4 B → A = B := fun {A B} e => by
    unfold i4 at e
    simp only [List.cons.injEq, and_true] at e
    exact Prod.ext e.1 (Prod.ext e.2.1 (Prod.ext e.2.2.1 e.2.2.2))
  unfold List.Nodup
  rw [List.pairwise_map, List.pairwise_map]
  exact List.Pairwise.imp_of_mem (fun {a b} ha hb ab e => h.df a b ab (List.mem_range.mp hb) (inj e)) List.pairwise_lt_range
theorem chL_take (F : Nat → R4) {N k : Nat} (h : k ≤ N) : (chL F N).take k = chL F k := by
  unfold chL
  rw [← List.map_take, List.take_range, Nat.min_eq_left h]
theorem liteL_ch {F : Nat → R4} {N : Nat} (rd : ∀ k, k < N → Rd 600 (F k)) : D.liteL (chL F N) := by
  unfold chL
  have : ∀ l : List Nat, (∀ j ∈ l, j < N) → D.liteL (l.map fun j => rD (F j)) := fun l => by
    induction l with
    | nil => intro _; exact liteL_nil
    | cons j l ih => intro q; exact liteL_cons ((rd j (q j List.mem_cons_self)).lite (by decide)) (ih fun i hi => q i (List.mem_cons_of_mem _ hi))
  exact this _ fun j hj => List.mem_range.mp hj
theorem sh_end {F : Nat → R4} {N : Nat} (N3 : 3 ≤ N) (N9 : N ≤ 9) (rd : ∀ k, k < N → Rd 600 (F k)) : (D.lst [.tup (chL F N), .tup (chL F 2), .tup (chL F 1)]).shOk := by
  have l := lite_lst (liteL_cons (lite_tup (liteL_ch rd)) (liteL_cons (lite_tup (liteL_ch (N := 2) fun k hk => rd k (by omega))) (liteL_cons (lite_tup (liteL_ch (N := 1) fun k hk => rd k (by omega))) liteL_nil)))
  obtain rfl | rfl | rfl | rfl | rfl | rfl | rfl : N = 3 ∨ N = 4 ∨ N = 5 ∨ N = 6 ∨ N = 7 ∨ N = 8 ∨ N = 9 := by omega
  all_goals exact lite_shOk l (Nat.le_of_ble_eq_true (by kernel_rfl)) (Nat.le_of_ble_eq_true (by kernel_rfl))
theorem chL_at (F : Nat → R4) {N j : Nat} {i : Int} (e : i = j) (h : j < N) : atI (chL F N) i = some (rD (F j)) := by
  subst e
  unfold atI ixN
  rw [if_pos (by omega), if_pos (by rw [chL_len]; omega)]
  show (chL F N)[((j : Int)).toNat]? = _
  rw [Int.toNat_natCast, chL_get F h]
theorem min_sr {A B p q : R4} (ne : A ≠ B) (e : srR [A, B] = [p, q]) : (if HT.lexLt (i4 B) (i4 A) = true then B else A) = p := by
  have inj : ∀ {A B : R4}, i4 A = i4 B → A = B := fun {A B} e => by
    unfold i4 at e
    simp only [List.cons.injEq, and_true] at e
    exact Prod.ext e.1 (Prod.ext e.2.1 (Prod.ext e.2.2.1 e.2.2.2))
  rw [srR_lt] at e
  rw [ht_lexW (a := i4 A) (b := i4 B) rfl] at e
  rw [ht_lexW (a := i4 B) (b := i4 A) rfl]
  cases c : lexLt (i4 A) (i4 B) with
  | true =>
    rw [c, if_pos rfl] at e
    rw [if_neg (by rw [lexLt_asym (a := i4 A) (b := i4 B) rfl c]; decide)]
    exact (List.cons.inj e).1
  | false =>
    rw [c, if_neg (by decide)] at e
    cases c2 : lexLt (i4 B) (i4 A) with
    | true => rw [if_pos rfl]; exact (List.cons.inj e).1
    | false => exact absurd (inj (lexLt_anti (a := i4 A) (b := i4 B) rfl c c2)) ne
theorem if_rd (A B : R4) {p : R4} (h : (if HT.lexLt (i4 B) (i4 A) = true then B else A) = p) : (if HT.lexLt [B.1, B.2.1, B.2.2.1, B.2.2.2] [A.1, A.2.1, A.2.2.1, A.2.2.2] = true then D.tup [.int B.1, .int B.2.1, .int B.2.2.1, .int B.2.2.2] else D.tup [.int A.1, .int A.2.1, .int A.2.2.1, .int A.2.2.2]) = rD p := by
  rw [← h]
  unfold i4
  split <;> rfl
theorem nb_for {K : dEnds} {A0 A1 A2 A5 A6 A7 A9 A11 : Option SV} {X Y : R4} {T : Tk} {N : Nat} {F : Nat → R4} (hX : Rd 100 X) (hY : Rd 100 Y) (E : EndF X Y N F)
    (fin : ∀ s10, K.nx [A0, A1, A2, some (.val (rD X)), some (.val (rD Y)), A5, A6, A7, some (.val (.tup (chL F N))), A9, s10, A11] T) :
    ∀ (r c : Nat) (s10 : Option SV), c + 1 + r ≤ N → forL (gN 10) (sIf (dTst (dOp (oF fIsn) (dCall 4 sm_are_neighbours (aCons (dVar 3) (aCons (dVar 4) (aCons (dOp (oF fIx) (dVar 8) (dOp (oF fSub) (dVar 10) (dC (.int 1)))) (aCons (dOp (oF fIx) (dVar 8) (dVar 10)) (aNil)))))) (dC (.bl true)))) (sRet (dC (.bl false))) ((fun k ρ T => k.nx ρ T))) K (intsL ((c + 1 : Nat) : Int) r) [A0, A1, A2, some (.val (rD X)), some (.val (rD Y)), A5, A6, A7, some (.val (.tup (chL F N))), A9, s10, A11] T
  | 0, c, s10, _ => fin s10
  | r + 1, c, s10, hc => by
    have ih := nb_for (A0 := A0) (A1 := A1) (A2 := A2) (A5 := A5) (A6 := A6) (A7 := A7) (A9 := A9) (A11 := A11) (T := T) hX hY E fin r (c + 1)
    show forL (gN 10) (sIf (dTst (dOp (oF fIsn) (dCall 4 sm_are_neighbours (aCons (dVar 3) (aCons (dVar 4) (aCons (dOp (oF fIx) (dVar 8) (dOp (oF fSub) (dVar 10) (dC (.int 1)))) (aCons (dOp (oF fIx) (dVar 8) (dVar 10)) (aNil)))))) (dC (.bl true)))) (sRet (dC (.bl false))) ((fun k ρ T => k.nx ρ T))) K (.int ((c + 1 : Nat) : Int) :: intsL (((c + 1 : Nat) : Int) + 1) r) _ T
    rw [show (((c + 1 : Nat) : Int) + 1) = ((c + 1 + 1 : Nat) : Int) by push_cast; rfl, forL_c]
    generalize forL (gN 10) (sIf (dTst (dOp (oF fIsn) (dCall 4 sm_are_neighbours (aCons (dVar 3) (aCons (dVar 4) (aCons (dOp (oF fIx) (dVar 8) (dOp (oF fSub) (dVar 10) (dC (.int 1)))) (aCons (dOp (oF fIx) (dVar 8) (dVar 10)) (aNil)))))) (dC (.bl true)))) (sRet (dC (.bl false))) ((fun k ρ T => k.nx ρ T))) K (intsL ((c + 1 + 1 : Nat) : Int) r) = RR at ih ⊢
    walk_at "wkn"
    rw [chL_at F (N := N) (j := c) (by push_cast; omega) (by omega)]
    walk_at "wkn"
    rw [chL_at F (N := N) (j := c + 1) rfl (by omega)]
    walk_at "wkn"
    refine w_are_neighbours (n := 600) (hX.mono (by decide)) (hY.mono (by decide)) (E.rd c (by omega)) (E.rd (c + 1) (by omega)) (by decide) E.ne E.ap (E.lk c (by omega)) (E.lk (c + 1) (by omega)) ?_
    rw [decide_eq_false (E.df c (c + 1) (by omega) (by omega)), decide_eq_true (E.tc c (by omega))]
    walk_at "wkn"
    exact ih _ (by omega)
theorem w__law_right {T : Tk} {k : KD} (hT : TkS T) (h : ∀ T, k (.bl true) T) : sm__law_right [.tank] T k := by
  rw [e__law_right, b__law_right]
  walk_at "wkn"
  refine w__law_endless hT fun n m a b T1 hw he hT1 => ?_
  walk_at "wkn"
  refine w__law_of hT1 (by simp) (by simp) fun wd T2 hwd hT2 => ?_
  obtain ⟨w, rfl, w1, w2, w3⟩ := wide5e hwd
  walk_at "wkn"
  refine w__law_mapW hT2 w1 w2 w3 (by decide) fun f g T3 hg hT3 => ?_
  walk_at "wkn"
  refine w__law_pair_of hw fun gp Q g0 eP sP => ?_
  walk_at "wk"
  have bP : 0 < bnd Q := by
    have e := congrArg bnd eP
    rw [bnd_mulR, P2_b] at e
    have m0 := hw.m0
    exact pos_of_sq (s := gp) (by omega) e.symm (Int.mul_pos (by decide) (Int.mul_pos (Int.mul_pos m0 m0) (Int.mul_pos m0 m0)))
  have sax : S4 1 axR := ⟨sz_0, sz_0, sz_1 (by decide), sz_0⟩
  refine w__law_led_round hg sax (by decide) (by decide) fun x α α0 eα hx => ?_
  walk_at "wk"
  refine w__law_led_round hg sP bP (by decide) fun y β β0 eβ hy => ?_
  have hx : Rd 100 x := hx.mono (by decide)
  have hy : Rd 100 y := hy.mono (by decide)
  walk_at "wkn"
  refine w__law_dip hT3 (by decide) (by decide) fun w T4 w0 w1 hT4 => ?_
  have fx : ∀ (σ : Int) (N : Nat) P F γ, (σ = 1 ∨ σ = -1) → 3 ≤ N → N ≤ 9 → ChOk n m a b f g σ N P F γ → (∀ (D1 D2 : R4) (q1 q2 : Int) (l : Nat), q1 ≠ 0 → q2 ≠ 0 → RB f (Bk f g) (lnR ((n + m) * m) (tR m (n + m) (nI a b (P 0).1 (P 0).2 1) (nJ a b (P 0).1 (P 0).2 1)) (nI a b (P 0).1 (P 0).2 1) (nJ a b (P 0).1 (P 0).2 1)) = mulR q1 D1 → RB f (Bk f g) (lnR ((n + m) * m) (tR m (n + m) (nI a b (P 0).1 (P 0).2 (-1)) (nJ a b (P 0).1 (P 0).2 (-1))) (nI a b (P 0).1 (P 0).2 (-1)) (nJ a b (P 0).1 (P 0).2 (-1))) = mulR q2 D2 → Rd l D1 → Rd l D2 → ∃ v, srR [D1, D2] = [F 1, v]) → EndF x y N F := fun σ N P F γ hσ N3 N9 ok mn => end_facts hw he hg hx hy α0 (by omega) β0 eα eP eβ hσ N3 N9 ok mn
  have fy := fun σ N P F γ hσ N3 N9 ok mn => (fx σ N P F γ hσ N3 N9 ok mn).swap
  clear eα eβ eP bP sP
  walk_at "wkn"
  clear hwd sax
  refine iteB_of (fun c => ?_) (fun c => ?_)
  · clear fx
    generalize y = X at *
    generalize x = Y at *
    have hX := hy
    have hY := hx
    have fx := fy
    clear fy
    walk_at "wkn"
    refine w__law_start hT4 fun i j T5 hs hT5 => ?_
    walk_at "wkn"
    refine w__law_dip hT5 (by decide) (by decide) fun r T6 r0 r1 hT6 => ?_
    obtain ⟨N, hN⟩ : ∃ N : Nat, (3 + r : Int) = N := ⟨(3 + r).toNat, by omega⟩
    have N3 : 3 ≤ N := by omega
    have N9 : N ≤ 9 := by omega
    walk_at "wkn"
    rw [hN]
    refine w__law_chain hw he hg hs (by omega) N9 fun σ P F γ hσ p0 ok mn => ?_
    have E := fx σ N P F γ hσ N3 N9 ok mn
    clear fx ok mn p0
    walk_at "wkn"
    refine w_chain_count hX hY (by decide) E.ne E.ap ?_
    rw [E.cnt]
    walk_at "wkn"
    have lN : lenD (.tup (chL F N)) = (N : Int) := by
      show ((chL F N).length : Int) = _
      rw [chL_len]
    rw [lN]
    refine ⟨E.lenS N9, ?_⟩
    refine iteB_p (decide_eq_true rfl) ?_
    walk_at "wkn"
    rw [chL_get F (show 0 < N by omega)]
    walk_at "wkn"
    have noL := hT6.noL
    have hX6 : Rd 600 X := hX.mono (by decide)
    have hY6 : Rd 600 Y := hY.mono (by decide)
    have hl := fun (n : Nat) (n1 : 1 ≤ n) (n9 : n ≤ N) (k : KD) (q : k (.tup (chL F n)) T6) => w_links_on_c (k := k) (T := T6) (f := F) (n := n) noL hX6 hY6 (E.rd 0 (by omega)) (by decide) E.ne E.ap (E.lk 0 (by omega)) n1 (by omega) (E.ec.1.chn (by omega)) q
    have hl' := fun (k : KD) (q : k (.tup (chL F 2)) T6) => w_links_on_c (k := k) (T := T6) (f := F) (n := 2) noL hY6 hX6 (E.rd 0 (by omega)) (by decide) E.swap.ne E.swap.ap (E.swap.lk 0 (by omega)) (by decide) (by decide) (E.ec.2.chn (by omega)) q
    refine hl N (by omega) (Nat.le_refl _) _ ?_
    walk_at "wkn"
    rw [chL_get F (show 0 < N by omega)]
    walk_at "wkn"
    refine hl' _ ?_
    walk_at "wkn"
    rw [chL_get F (show 0 < N by omega)]
    walk_at "wkn"
    refine hl 1 (by decide) (by omega) _ ?_
    walk_at "wkn"
    have sh := sh_end N3 N9 E.rd
    rw [chL_take F (show 2 ≤ N by omega), chL_take F (show 1 ≤ N by omega)]
    refine ⟨sh, sh, ?_⟩
    walk_at "wkn"
    refine ⟨⟨by omega, by omega⟩, ?_⟩
    rw [show ((N : Int) - 1).toNat = N - 1 by omega]
    refine nb_for hX hY E (fun s10 => ?_) (N - 1) 0 none (by omega)
    walk_at "wkn"
    refine w__law_dip hT6 (by omega) (by omega) fun r T7 r0' r1' hT7 => ?_
    obtain ⟨K, hK⟩ : ∃ K : Nat, (1 + r : Int) = (K + 1 : Nat) := ⟨r.toNat, by omega⟩
    have K1 : K + 2 < N := by omega
    walk_at "wkn"
    rw [hK, chL_at F (N := N) (j := K + 1) rfl (by omega)]
    walk_at "wkn"
    obtain ⟨p, q, nb, esr, nab⟩ := E.ec.1.nb (K + 1) (by omega) (by omega)
    rw [show K + 1 - 1 = K by omega, show K + 1 + 1 = K + 2 by omega] at esr nab
    have rK := E.rd (K + 1) (by omega)
    refine w_next_nb hX6 hY6 rK (by decide) E.ne E.ap (E.lk (K + 1) (by omega)) ?_
    refine nb _ _ ?_
    walk_at "wkn"
    obtain ⟨hp, hq⟩ : Rd 600 p ∧ Rd 600 q := by
      have z := srR_perm [F K, F (K + 2)]
      rw [esr] at z
      have q1 : p ∈ [F K, F (K + 2)] := z.mem_iff.mp (by simp)
      have q2 : q ∈ [F K, F (K + 2)] := z.mem_iff.mp (by simp)
      simp only [List.mem_cons, List.not_mem_nil, or_false] at q1 q2
      have r1 := E.rd K (by omega)
      have r2 := E.rd (K + 2) (by omega)
      constructor
      · rcases q1 with e | e <;> rw [e] <;> assumption
      · rcases q2 with e | e <;> rw [e] <;> assumption
    have lt2 : ∀ {A B : R4}, Rd 600 A → Rd 600 B → (D.tup [rD A, rD B]).shOk := fun {A B} a b => lite_shOk (lite_tup (liteL_cons (a.lite (by decide)) (liteL_cons (b.lite (by decide)) liteL_nil))) (Nat.le_of_ble_eq_true (by kernel_rfl)) (Nat.le_of_ble_eq_true (by kernel_rfl))
    refine ⟨lt2 hp hq, ?_⟩
    rw [chL_at F (N := N) (j := K) (by push_cast; omega) (by omega)]
    walk_at "wkn"
    rw [chL_at F (N := N) (j := K + 2) (by push_cast; omega) (by omega)]
    walk_at "wkn"
    have es : List.map tI (isort [[(F K).1, (F K).2.1, (F K).2.2.1, (F K).2.2.2], [(F (K + 2)).1, (F (K + 2)).2.1, (F (K + 2)).2.2.1, (F (K + 2)).2.2.2]]) = [rD p, rD q] := by
      have z := srR_map [F K, F (K + 2)]
      rw [esr] at z
      exact z
    rw [es]
    refine ⟨(tups_i4 [F K, F (K + 2)]).mpr (by simp), lt2 hp hq, ?_⟩
    walk_at "wkn"
    rw [chL_at F (N := N) (j := K + 1) rfl (by omega)]
    walk_at "wkn"
    have hl2 := fun (k : KD) (c : k (.tup (chL (fun j => if j = 0 then F (K + 1) else p) 2)) T7) => w_links_on_c (k := k) (T := T7) (f := fun j => if j = 0 then F (K + 1) else p) (n := 2) hT7.noL hX6 hY6 (show Rd 600 (F (K + 1)) from rK) (by decide) E.ne E.ap (show lkB X Y (F (K + 1)) = true from E.lk (K + 1) (by omega)) (by decide) (by decide) (fun j hj => by
      obtain rfl : j = 0 := by omega
      exact ⟨p, q, nb, fun _ => rfl, fun q => by omega⟩) c
    refine hl2 _ ?_
    rw [show chL (fun j => if j = 0 then F (K + 1) else p) 2 = [rD (F (K + 1)), rD p] from rfl]
    walk_at "wkn"
    rw [chL_get F (show 0 < N by omega)]
    walk_at "wkn"
    rw [chL_get F (show 2 < N by omega)]
    walk_at "wkn"
    refine w_are_neighbours (n := 600) hX6 hY6 (E.rd 0 (by omega)) (E.rd 2 (by omega)) (by decide) E.ne E.ap (E.lk 0 (by omega)) (E.lk 2 (by omega)) ?_
    rw [decide_eq_false (E.df 0 2 (by omega) (by omega)), decide_eq_false E.nt]
    walk_at "wkn"
    refine ⟨lt2 rK hp, ?_⟩
    rw [chL_at F (N := N) (j := K + 1) rfl (by omega)]
    walk_at "wkn"
    rw [chL_at F (N := N) (j := K) (by push_cast; omega) (by omega)]
    walk_at "wkn"
    rw [chL_at F (N := N) (j := K + 2) (by push_cast; omega) (by omega)]
    walk_at "wkn"
    rw [if_rd _ _ (min_sr nab esr)]
    refine ⟨lt2 rK hp, ?_⟩
    walk_at "wkn"
    exact h _
  · clear fy
    generalize x = X at *
    generalize y = Y at *
    have hX := hx
    have hY := hy
    walk_at "wkn"
    refine w__law_start hT4 fun i j T5 hs hT5 => ?_
    walk_at "wkn"
    refine w__law_dip hT5 (by decide) (by decide) fun r T6 r0 r1 hT6 => ?_
    obtain ⟨N, hN⟩ : ∃ N : Nat, (3 + r : Int) = N := ⟨(3 + r).toNat, by omega⟩
    have N3 : 3 ≤ N := by omega
    have N9 : N ≤ 9 := by omega
    walk_at "wkn"
    rw [hN]
    refine w__law_chain hw he hg hs (by omega) N9 fun σ P F γ hσ p0 ok mn => ?_
    have E := fx σ N P F γ hσ N3 N9 ok mn
    clear fx ok mn p0
    walk_at "wkn"
    refine w_chain_count hX hY (by decide) E.ne E.ap ?_
    rw [E.cnt]
    walk_at "wkn"
    have lN : lenD (.tup (chL F N)) = (N : Int) := by
      show ((chL F N).length : Int) = _
      rw [chL_len]
    rw [lN]
    refine ⟨E.lenS N9, ?_⟩
    refine iteB_p (decide_eq_true rfl) ?_
    walk_at "wkn"
    rw [chL_get F (show 0 < N by omega)]
    walk_at "wkn"
    have noL := hT6.noL
    have hX6 : Rd 600 X := hX.mono (by decide)
    have hY6 : Rd 600 Y := hY.mono (by decide)
    have hl := fun (n : Nat) (n1 : 1 ≤ n) (n9 : n ≤ N) (k : KD) (q : k (.tup (chL F n)) T6) => w_links_on_c (k := k) (T := T6) (f := F) (n := n) noL hX6 hY6 (E.rd 0 (by omega)) (by decide) E.ne E.ap (E.lk 0 (by omega)) n1 (by omega) (E.ec.1.chn (by omega)) q
    have hl' := fun (k : KD) (q : k (.tup (chL F 2)) T6) => w_links_on_c (k := k) (T := T6) (f := F) (n := 2) noL hY6 hX6 (E.rd 0 (by omega)) (by decide) E.swap.ne E.swap.ap (E.swap.lk 0 (by omega)) (by decide) (by decide) (E.ec.2.chn (by omega)) q
    refine hl N (by omega) (Nat.le_refl _) _ ?_
    walk_at "wkn"
    rw [chL_get F (show 0 < N by omega)]
    walk_at "wkn"
    refine hl' _ ?_
    walk_at "wkn"
    rw [chL_get F (show 0 < N by omega)]
    walk_at "wkn"
    refine hl 1 (by decide) (by omega) _ ?_
    walk_at "wkn"
    have sh := sh_end N3 N9 E.rd
    rw [chL_take F (show 2 ≤ N by omega), chL_take F (show 1 ≤ N by omega)]
    refine ⟨sh, sh, ?_⟩
    walk_at "wkn"
    refine ⟨⟨by omega, by omega⟩, ?_⟩
    rw [show ((N : Int) - 1).toNat = N - 1 by omega]
    refine nb_for hX hY E (fun s10 => ?_) (N - 1) 0 none (by omega)
    walk_at "wkn"
    refine w__law_dip hT6 (by omega) (by omega) fun r T7 r0' r1' hT7 => ?_
    obtain ⟨K, hK⟩ : ∃ K : Nat, (1 + r : Int) = (K + 1 : Nat) := ⟨r.toNat, by omega⟩
    have K1 : K + 2 < N := by omega
    walk_at "wkn"
    rw [hK, chL_at F (N := N) (j := K + 1) rfl (by omega)]
    walk_at "wkn"
    obtain ⟨p, q, nb, esr, nab⟩ := E.ec.1.nb (K + 1) (by omega) (by omega)
    rw [show K + 1 - 1 = K by omega, show K + 1 + 1 = K + 2 by omega] at esr nab
    have rK := E.rd (K + 1) (by omega)
    refine w_next_nb hX6 hY6 rK (by decide) E.ne E.ap (E.lk (K + 1) (by omega)) ?_
    refine nb _ _ ?_
    walk_at "wkn"
    obtain ⟨hp, hq⟩ : Rd 600 p ∧ Rd 600 q := by
      have z := srR_perm [F K, F (K + 2)]
      rw [esr] at z
      have q1 : p ∈ [F K, F (K + 2)] := z.mem_iff.mp (by simp)
      have q2 : q ∈ [F K, F (K + 2)] := z.mem_iff.mp (by simp)
      simp only [List.mem_cons, List.not_mem_nil, or_false] at q1 q2
      have r1 := E.rd K (by omega)
      have r2 := E.rd (K + 2) (by omega)
      constructor
      · rcases q1 with e | e <;> rw [e] <;> assumption
      · rcases q2 with e | e <;> rw [e] <;> assumption
    have lt2 : ∀ {A B : R4}, Rd 600 A → Rd 600 B → (D.tup [rD A, rD B]).shOk := fun {A B} a b => lite_shOk (lite_tup (liteL_cons (a.lite (by decide)) (liteL_cons (b.lite (by decide)) liteL_nil))) (Nat.le_of_ble_eq_true (by kernel_rfl)) (Nat.le_of_ble_eq_true (by kernel_rfl))
    refine ⟨lt2 hp hq, ?_⟩
    rw [chL_at F (N := N) (j := K) (by push_cast; omega) (by omega)]
    walk_at "wkn"
    rw [chL_at F (N := N) (j := K + 2) (by push_cast; omega) (by omega)]
    walk_at "wkn"
    have es : List.map tI (isort [[(F K).1, (F K).2.1, (F K).2.2.1, (F K).2.2.2], [(F (K + 2)).1, (F (K + 2)).2.1, (F (K + 2)).2.2.1, (F (K + 2)).2.2.2]]) = [rD p, rD q] := by
      have z := srR_map [F K, F (K + 2)]
      rw [esr] at z
      exact z
    rw [es]
    refine ⟨(tups_i4 [F K, F (K + 2)]).mpr (by simp), lt2 hp hq, ?_⟩
    walk_at "wkn"
    rw [chL_at F (N := N) (j := K + 1) rfl (by omega)]
    walk_at "wkn"
    have hl2 := fun (k : KD) (c : k (.tup (chL (fun j => if j = 0 then F (K + 1) else p) 2)) T7) => w_links_on_c (k := k) (T := T7) (f := fun j => if j = 0 then F (K + 1) else p) (n := 2) hT7.noL hX6 hY6 (show Rd 600 (F (K + 1)) from rK) (by decide) E.ne E.ap (show lkB X Y (F (K + 1)) = true from E.lk (K + 1) (by omega)) (by decide) (by decide) (fun j hj => by
      obtain rfl : j = 0 := by omega
      exact ⟨p, q, nb, fun _ => rfl, fun q => by omega⟩) c
    refine hl2 _ ?_
    rw [show chL (fun j => if j = 0 then F (K + 1) else p) 2 = [rD (F (K + 1)), rD p] from rfl]
    walk_at "wkn"
    rw [chL_get F (show 0 < N by omega)]
    walk_at "wkn"
    rw [chL_get F (show 2 < N by omega)]
    walk_at "wkn"
    refine w_are_neighbours (n := 600) hX6 hY6 (E.rd 0 (by omega)) (E.rd 2 (by omega)) (by decide) E.ne E.ap (E.lk 0 (by omega)) (E.lk 2 (by omega)) ?_
    rw [decide_eq_false (E.df 0 2 (by omega) (by omega)), decide_eq_false E.nt]
    walk_at "wkn"
    refine ⟨lt2 rK hp, ?_⟩
    rw [chL_at F (N := N) (j := K + 1) rfl (by omega)]
    walk_at "wkn"
    rw [chL_at F (N := N) (j := K) (by push_cast; omega) (by omega)]
    walk_at "wkn"
    rw [chL_at F (N := N) (j := K + 2) (by push_cast; omega) (by omega)]
    walk_at "wkn"
    rw [if_rd _ _ (min_sr nab esr)]
    refine ⟨lt2 rK hp, ?_⟩
    walk_at "wkn"
    exact h _

theorem w_law {ns : List Int} (h : ns.length ≤ 63) : sm_law [.val (scrD ns)] [] fun r _ => r = .bl true := by
  rw [e_law, b_law]
  walk_at "wkn"
  refine w__law_rounds fun r hr => ?_
  rcases hr with rfl | rfl
  · walk_at "wki"
    refine w__law_well (ns := ns) (by decide) (by decide) fun T hT => ?_
    walk_at "wki"
    refine w__law_right hT fun T' => ?_
    walk_at "wki"
    refine w__law_well (ns := ns) (by decide) (by decide) fun T hT => ?_
    walk_at "wki"
    refine w__law_right hT fun T' => ?_
    walk_at "wki"
  · walk_at "wki"
    refine w__law_well (ns := ns) (by decide) (by decide) fun T hT => ?_
    walk_at "wki"
    refine w__law_right hT fun T' => ?_
    walk_at "wki"
    refine w__law_well (ns := ns) (by decide) (by decide) fun T hT => ?_
    walk_at "wki"
    refine w__law_right hT fun T' => ?_
    walk_at "wki"
    refine w__law_well (ns := ns) (by decide) (by decide) fun T hT => ?_
    walk_at "wki"
    refine w__law_right hT fun T' => ?_
    walk_at "wki"

theorem w_fin (ns : List Int) (h : ns.length ≤ 63) : sm_law [.val (scrD ns)] [] fun r _ => r = .bl true := w_law h
end L2.G
open PySem PySem.W PyProof.Rows in
set_option maxRecDepth 100000 in
set_option maxHeartbeats 0 in
theorem PySem.Challenge.cw_drawarms_k64_whole_chains_that_never_clo_holds : PySem.Challenge.rw_drawarms_k64_whole_chains_that_never_clo.Holds := by
  w_on; o_law
  refine HandSHeadRun.head_imp (r := PySem.W.OpenLaw.row PySem.Challenge.rw_drawarms_k64_whole_chains_that_never_clo) (q := L2.G.hdV) (H := L2.G.hdK) (ob := L2.G.hdO) (M := 20000) (loose := L2.G.hdNames) (d := HandSHeadRun.topDef (PySem.W.OpenLaw.row PySem.Challenge.rw_drawarms_k64_whole_chains_that_never_clo).prog 76) (kwd := []) L2.G.hdO_eq
    L2.G.hd_run (by kernel_rfl) (by kernel_rfl) (by kernel_rfl) (by rfl) (by first | assumption | decide +kernel) (by decide +kernel) ⟨rfl, rfl, rfl, rfl, rfl, by decide +kernel⟩ ?hw ?hc
  case hw => w_witness2
  case hc =>
    refine L2.G.g_walkE (l := PySem.Challenge.rw_drawarms_k64_whole_chains_that_never_clo) (n := 63) (k := 9) (x := "law") (y := "_law_script") (sem := L2.G.sm_law) L2.G.hd rfl rfl (by decide) (by kernel_rfl) ⟨rfl, by decide, by decide⟩ (by kernel_rfl) ?F L2.G.w_fin
    intro w mg h Y G
    obtain ⟨K, KX, c, te⟩ := Y
    exact ⟨K, KX, c, te, fun base hK hG => L2.G.ok_law (L2.G.hd_tx hK hG c)⟩
